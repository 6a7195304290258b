import PyProof.Rows.All
import Wide.All
import OpenK.AllK
import Wide.FinOn
import HandS.ForMost
import HandS.More
import HandS.Defaults
import HandS.HeadHook1
import HandS.HeadHook2
import HandS.HeadNt
import HandS.Star
import HandS.IsInst
import HandS.TupAny
import HandS.Comp
import HandS.DictComp
import HandS.Iter
import KE.GoesNew
import KE.KOpsOwn
import HandS.SlotsOwn
import HandS.ClsMeth
import KE.KTupSum
import HandS.Conv
import HandS.Deep
import HandS.GenList
import HandS.TupLe
import KE.KStateDown
import Lean
import HandS.Head0
import HandS.Head1
import HandS.Head2
import HandS.HeadEnd
import PySem.Challenge.RW_copyvotes_k72_whole_votes_of_the_best
-- K72Base
set_option Elab.async false
set_option linter.all false
set_option maxRecDepth 100000
/-! The text by places; the facts that the head is asked for (printed by gen_base.py). -/
namespace K72
open PySem PySem.Spec PyProof.Rows L2
abbrev rowL : PySem.W.OpenLaw := PySem.Challenge.rw_copyvotes_k72_whole_votes_of_the_best
def top (i : Nat) : Stmt := PySem.Challenge.pw_copyvotes_k72_whole_votes_of_the_best.main.body.getD i (.Pass ⟨0, 0, 0, 0⟩)
abbrev s_is_integer : Stmt := top 9
abbrev s_check_number : Stmt := top 10
abbrev s_lot_of : Stmt := top 14
abbrev s_others : Stmt := top 15
abbrev s_all_lots : Stmt := top 16
abbrev s_code_of : Stmt := top 17
abbrev s_ascending : Stmt := top 18
abbrev s_holds : Stmt := top 19
abbrev s_middle_lots : Stmt := top 20
abbrev s_least_lots : Stmt := top 22
abbrev s_is_lot_like : Stmt := top 23
abbrev s_Family_init : Stmt := inClass (top 24) 0
abbrev s_Family_contains : Stmt := inClass (top 24) 3
abbrev s_Family_check_like : Stmt := inClass (top 24) 4
abbrev s_Family_eq : Stmt := inClass (top 24) 6
abbrev s_Family_or : Stmt := inClass (top 24) 8
abbrev s_Family_every : Stmt := inClass (top 24) 12
abbrev s_Family_wider : Stmt := inClass (top 24) 14
abbrev s_Family_dual : Stmt := inClass (top 24) 17
abbrev s_votes_of : Stmt := top 29
abbrev s_Votes_init : Stmt := inClass (top 30) 0
abbrev s_Votes_family : Stmt := inClass (top 30) 2
abbrev s_Votes_dual : Stmt := inClass (top 30) 3
abbrev s_rows_with_sum : Stmt := top 31
abbrev s_quota_for : Stmt := top 32
abbrev s_find_votes : Stmt := top 33
abbrev s_common_part : Stmt := top 35
abbrev s_ratio_of : Stmt := top 36
abbrev s_Ratio_init : Stmt := inClass (top 37) 0
abbrev s_Ratio_eq : Stmt := inClass (top 37) 1
abbrev s_Ratio_lt : Stmt := inClass (top 37) 2
abbrev s_Ratio_gt : Stmt := inClass (top 37) 4
abbrev s_Ratio_ge : Stmt := inClass (top 37) 5
abbrev s_Ratio_sub : Stmt := inClass (top 37) 8
abbrev s_Ratio_rsub : Stmt := inClass (top 37) 9
abbrev s_Ratio_mul : Stmt := inClass (top 37) 10
abbrev s_total : Stmt := top 38
abbrev s_check_chance : Stmt := top 41
abbrev s_Chances_init : Stmt := inClass (top 42) 0
abbrev s_Chances_len : Stmt := inClass (top 42) 3
abbrev s_Chances_add : Stmt := inClass (top 42) 5
abbrev s_Chances_chance_of : Stmt := inClass (top 42) 7
abbrev s_check_share : Stmt := top 44
abbrev s_gain_of : Stmt := top 45
abbrev s_middle_gains : Stmt := top 47
abbrev s_whole_lot : Stmt := top 48
abbrev s_least_writes : Stmt := top 49
abbrev s_greatest_writes : Stmt := top 50
abbrev s_weight_of : Stmt := top 52
abbrev s_is_heavier : Stmt := top 53
abbrev s_heavy : Stmt := top 54
abbrev s_pair_fault : Stmt := top 57
abbrev s_check_trade : Stmt := top 58
abbrev s_tally : Stmt := top 59
abbrev s_pairs_of : Stmt := top 60
abbrev s_first_trade : Stmt := top 61
abbrev s__law_start : Stmt := top 63
abbrev s__law_draw : Stmt := top 64
abbrev s__law_chances : Stmt := top 65
abbrev s__law_share : Stmt := top 66
abbrev s__law_ratios : Stmt := top 67
abbrev s__law_made : Stmt := top 68
abbrev s__law_power : Stmt := top 69
abbrev s__law_has : Stmt := top 70
abbrev s__law_lot : Stmt := top 71
abbrev s__law_some_family : Stmt := top 72
abbrev s__law_votes_hold : Stmt := top 73
abbrev s_law : Stmt := top 74
def d_is_integer : He.DefD := ⟨("is_integer", none), "is_integer", "is_integer", defArgs s_is_integer, defBody s_is_integer, defScope s_is_integer, [], []⟩
def d_check_number : He.DefD := ⟨("check_number", none), "check_number", "check_number", defArgs s_check_number, defBody s_check_number, defScope s_check_number, [], []⟩
def d_lot_of : He.DefD := ⟨("lot_of", none), "lot_of", "lot_of", defArgs s_lot_of, defBody s_lot_of, defScope s_lot_of, [], []⟩
def d_others : He.DefD := ⟨("others", none), "others", "others", defArgs s_others, defBody s_others, defScope s_others, [], []⟩
def d_all_lots : He.DefD := ⟨("all_lots", none), "all_lots", "all_lots", defArgs s_all_lots, defBody s_all_lots, defScope s_all_lots, [], []⟩
def d_code_of : He.DefD := ⟨("code_of", none), "code_of", "code_of", defArgs s_code_of, defBody s_code_of, defScope s_code_of, [], []⟩
def d_ascending : He.DefD := ⟨("ascending", none), "ascending", "ascending", defArgs s_ascending, defBody s_ascending, defScope s_ascending, [], []⟩
def d_holds : He.DefD := ⟨("holds", none), "holds", "holds", defArgs s_holds, defBody s_holds, defScope s_holds, [], []⟩
def d_middle_lots : He.DefD := ⟨("middle_lots", none), "middle_lots", "middle_lots", defArgs s_middle_lots, defBody s_middle_lots, defScope s_middle_lots, [], []⟩
def d_least_lots : He.DefD := ⟨("least_lots", none), "least_lots", "least_lots", defArgs s_least_lots, defBody s_least_lots, defScope s_least_lots, [], []⟩
def d_is_lot_like : He.DefD := ⟨("is_lot_like", none), "is_lot_like", "is_lot_like", defArgs s_is_lot_like, defBody s_is_lot_like, defScope s_is_lot_like, [], []⟩
def d_Family_init : He.DefD := ⟨("Family", some "__init__"), "__init__", "Family.__init__", defArgs s_Family_init, defBody s_Family_init, defScope s_Family_init, [], []⟩
def d_Family_contains : He.DefD := ⟨("Family", some "contains"), "contains", "Family.contains", defArgs s_Family_contains, defBody s_Family_contains, defScope s_Family_contains, [], []⟩
def d_Family_check_like : He.DefD := ⟨("Family", some "check_like"), "check_like", "Family.check_like", defArgs s_Family_check_like, defBody s_Family_check_like, defScope s_Family_check_like, [], []⟩
def d_Family_eq : He.DefD := ⟨("Family", some "__eq__"), "__eq__", "Family.__eq__", defArgs s_Family_eq, defBody s_Family_eq, defScope s_Family_eq, [], []⟩
def d_Family_or : He.DefD := ⟨("Family", some "__or__"), "__or__", "Family.__or__", defArgs s_Family_or, defBody s_Family_or, defScope s_Family_or, [], []⟩
def d_Family_every : He.DefD := ⟨("Family", some "every"), "every", "Family.every", defArgs s_Family_every, defBody s_Family_every, defScope s_Family_every, [], []⟩
def d_Family_wider : He.DefD := ⟨("Family", some "wider"), "wider", "Family.wider", defArgs s_Family_wider, defBody s_Family_wider, defScope s_Family_wider, [], []⟩
def d_Family_dual : He.DefD := ⟨("Family", some "dual"), "dual", "Family.dual", defArgs s_Family_dual, defBody s_Family_dual, defScope s_Family_dual, [], []⟩
def d_votes_of : He.DefD := ⟨("votes_of", none), "votes_of", "votes_of", defArgs s_votes_of, defBody s_votes_of, defScope s_votes_of, [], []⟩
def d_Votes_init : He.DefD := ⟨("Votes", some "__init__"), "__init__", "Votes.__init__", defArgs s_Votes_init, defBody s_Votes_init, defScope s_Votes_init, [], []⟩
def d_Votes_family : He.DefD := ⟨("Votes", some "family"), "family", "Votes.family", defArgs s_Votes_family, defBody s_Votes_family, defScope s_Votes_family, [], []⟩
def d_Votes_dual : He.DefD := ⟨("Votes", some "dual"), "dual", "Votes.dual", defArgs s_Votes_dual, defBody s_Votes_dual, defScope s_Votes_dual, [], []⟩
def d_rows_with_sum : He.DefD := ⟨("rows_with_sum", none), "rows_with_sum", "rows_with_sum", defArgs s_rows_with_sum, defBody s_rows_with_sum, defScope s_rows_with_sum, [], []⟩
def d_quota_for : He.DefD := ⟨("quota_for", none), "quota_for", "quota_for", defArgs s_quota_for, defBody s_quota_for, defScope s_quota_for, [], []⟩
def d_find_votes : He.DefD := ⟨("find_votes", none), "find_votes", "find_votes", defArgs s_find_votes, defBody s_find_votes, defScope s_find_votes, [], []⟩
def d_common_part : He.DefD := ⟨("common_part", none), "common_part", "common_part", defArgs s_common_part, defBody s_common_part, defScope s_common_part, [], []⟩
def d_ratio_of : He.DefD := ⟨("ratio_of", none), "ratio_of", "ratio_of", defArgs s_ratio_of, defBody s_ratio_of, defScope s_ratio_of, [], []⟩
def d_Ratio_init : He.DefD := ⟨("Ratio", some "__init__"), "__init__", "Ratio.__init__", defArgs s_Ratio_init, defBody s_Ratio_init, defScope s_Ratio_init, [.int 1], []⟩
def d_Ratio_eq : He.DefD := ⟨("Ratio", some "__eq__"), "__eq__", "Ratio.__eq__", defArgs s_Ratio_eq, defBody s_Ratio_eq, defScope s_Ratio_eq, [], []⟩
def d_Ratio_lt : He.DefD := ⟨("Ratio", some "__lt__"), "__lt__", "Ratio.__lt__", defArgs s_Ratio_lt, defBody s_Ratio_lt, defScope s_Ratio_lt, [], []⟩
def d_Ratio_gt : He.DefD := ⟨("Ratio", some "__gt__"), "__gt__", "Ratio.__gt__", defArgs s_Ratio_gt, defBody s_Ratio_gt, defScope s_Ratio_gt, [], []⟩
def d_Ratio_ge : He.DefD := ⟨("Ratio", some "__ge__"), "__ge__", "Ratio.__ge__", defArgs s_Ratio_ge, defBody s_Ratio_ge, defScope s_Ratio_ge, [], []⟩
def d_Ratio_sub : He.DefD := ⟨("Ratio", some "__sub__"), "__sub__", "Ratio.__sub__", defArgs s_Ratio_sub, defBody s_Ratio_sub, defScope s_Ratio_sub, [], []⟩
def d_Ratio_rsub : He.DefD := ⟨("Ratio", some "__rsub__"), "__rsub__", "Ratio.__rsub__", defArgs s_Ratio_rsub, defBody s_Ratio_rsub, defScope s_Ratio_rsub, [], []⟩
def d_Ratio_mul : He.DefD := ⟨("Ratio", some "__mul__"), "__mul__", "Ratio.__mul__", defArgs s_Ratio_mul, defBody s_Ratio_mul, defScope s_Ratio_mul, [], []⟩
def d_total : He.DefD := ⟨("total", none), "total", "total", defArgs s_total, defBody s_total, defScope s_total, [], []⟩
def d_check_chance : He.DefD := ⟨("check_chance", none), "check_chance", "check_chance", defArgs s_check_chance, defBody s_check_chance, defScope s_check_chance, [], []⟩
def d_Chances_init : He.DefD := ⟨("Chances", some "__init__"), "__init__", "Chances.__init__", defArgs s_Chances_init, defBody s_Chances_init, defScope s_Chances_init, [], []⟩
def d_Chances_len : He.DefD := ⟨("Chances", some "__len__"), "__len__", "Chances.__len__", defArgs s_Chances_len, defBody s_Chances_len, defScope s_Chances_len, [], []⟩
def d_Chances_add : He.DefD := ⟨("Chances", some "__add__"), "__add__", "Chances.__add__", defArgs s_Chances_add, defBody s_Chances_add, defScope s_Chances_add, [], []⟩
def d_Chances_chance_of : He.DefD := ⟨("Chances", some "chance_of"), "chance_of", "Chances.chance_of", defArgs s_Chances_chance_of, defBody s_Chances_chance_of, defScope s_Chances_chance_of, [], []⟩
def d_check_share : He.DefD := ⟨("check_share", none), "check_share", "check_share", defArgs s_check_share, defBody s_check_share, defScope s_check_share, [], []⟩
def d_gain_of : He.DefD := ⟨("gain_of", none), "gain_of", "gain_of", defArgs s_gain_of, defBody s_gain_of, defScope s_gain_of, [], []⟩
def d_middle_gains : He.DefD := ⟨("middle_gains", none), "middle_gains", "middle_gains", defArgs s_middle_gains, defBody s_middle_gains, defScope s_middle_gains, [], []⟩
def d_whole_lot : He.DefD := ⟨("whole_lot", none), "whole_lot", "whole_lot", defArgs s_whole_lot, defBody s_whole_lot, defScope s_whole_lot, [], []⟩
def d_least_writes : He.DefD := ⟨("least_writes", none), "least_writes", "least_writes", defArgs s_least_writes, defBody s_least_writes, defScope s_least_writes, [], []⟩
def d_greatest_writes : He.DefD := ⟨("greatest_writes", none), "greatest_writes", "greatest_writes", defArgs s_greatest_writes, defBody s_greatest_writes, defScope s_greatest_writes, [], []⟩
def d_weight_of : He.DefD := ⟨("weight_of", none), "weight_of", "weight_of", defArgs s_weight_of, defBody s_weight_of, defScope s_weight_of, [], []⟩
def d_is_heavier : He.DefD := ⟨("is_heavier", none), "is_heavier", "is_heavier", defArgs s_is_heavier, defBody s_is_heavier, defScope s_is_heavier, [], []⟩
def d_heavy : He.DefD := ⟨("heavy", none), "heavy", "heavy", defArgs s_heavy, defBody s_heavy, defScope s_heavy, [], []⟩
def d_pair_fault : He.DefD := ⟨("pair_fault", none), "pair_fault", "pair_fault", defArgs s_pair_fault, defBody s_pair_fault, defScope s_pair_fault, [], []⟩
def d_check_trade : He.DefD := ⟨("check_trade", none), "check_trade", "check_trade", defArgs s_check_trade, defBody s_check_trade, defScope s_check_trade, [], []⟩
def d_tally : He.DefD := ⟨("tally", none), "tally", "tally", defArgs s_tally, defBody s_tally, defScope s_tally, [], []⟩
def d_pairs_of : He.DefD := ⟨("pairs_of", none), "pairs_of", "pairs_of", defArgs s_pairs_of, defBody s_pairs_of, defScope s_pairs_of, [], []⟩
def d_first_trade : He.DefD := ⟨("first_trade", none), "first_trade", "first_trade", defArgs s_first_trade, defBody s_first_trade, defScope s_first_trade, [], []⟩
def d__law_start : He.DefD := ⟨("_law_start", none), "_law_start", "_law_start", defArgs s__law_start, defBody s__law_start, defScope s__law_start, [], []⟩
def d__law_draw : He.DefD := ⟨("_law_draw", none), "_law_draw", "_law_draw", defArgs s__law_draw, defBody s__law_draw, defScope s__law_draw, [], []⟩
def d__law_chances : He.DefD := ⟨("_law_chances", none), "_law_chances", "_law_chances", defArgs s__law_chances, defBody s__law_chances, defScope s__law_chances, [], []⟩
def d__law_share : He.DefD := ⟨("_law_share", none), "_law_share", "_law_share", defArgs s__law_share, defBody s__law_share, defScope s__law_share, [], []⟩
def d__law_ratios : He.DefD := ⟨("_law_ratios", none), "_law_ratios", "_law_ratios", defArgs s__law_ratios, defBody s__law_ratios, defScope s__law_ratios, [], []⟩
def d__law_made : He.DefD := ⟨("_law_made", none), "_law_made", "_law_made", defArgs s__law_made, defBody s__law_made, defScope s__law_made, [], []⟩
def d__law_power : He.DefD := ⟨("_law_power", none), "_law_power", "_law_power", defArgs s__law_power, defBody s__law_power, defScope s__law_power, [], []⟩
def d__law_has : He.DefD := ⟨("_law_has", none), "_law_has", "_law_has", defArgs s__law_has, defBody s__law_has, defScope s__law_has, [], []⟩
def d__law_lot : He.DefD := ⟨("_law_lot", none), "_law_lot", "_law_lot", defArgs s__law_lot, defBody s__law_lot, defScope s__law_lot, [], []⟩
def d__law_some_family : He.DefD := ⟨("_law_some_family", none), "_law_some_family", "_law_some_family", defArgs s__law_some_family, defBody s__law_some_family, defScope s__law_some_family, [], []⟩
def d__law_votes_hold : He.DefD := ⟨("_law_votes_hold", none), "_law_votes_hold", "_law_votes_hold", defArgs s__law_votes_hold, defBody s__law_votes_hold, defScope s__law_votes_hold, [], []⟩
def d_law : He.DefD := ⟨("law", none), "law", "law", defArgs s_law, defBody s_law, defScope s_law, [], []⟩
def fn : List He.DefD := [d_is_integer, d_check_number, d_lot_of, d_others, d_all_lots, d_code_of, d_ascending, d_holds, d_middle_lots, d_least_lots, d_is_lot_like, d_Family_init, d_Family_contains, d_Family_check_like, d_Family_eq, d_Family_or, d_Family_every, d_Family_wider, d_Family_dual, d_votes_of, d_Votes_init, d_Votes_family, d_Votes_dual, d_rows_with_sum, d_quota_for, d_find_votes, d_common_part, d_ratio_of, d_Ratio_init, d_Ratio_eq, d_Ratio_lt, d_Ratio_gt, d_Ratio_ge, d_Ratio_sub, d_Ratio_rsub, d_Ratio_mul, d_total, d_check_chance, d_Chances_init, d_Chances_len, d_Chances_add, d_Chances_chance_of, d_check_share, d_gain_of, d_middle_gains, d_whole_lot, d_least_writes, d_greatest_writes, d_weight_of, d_is_heavier, d_heavy, d_pair_fault, d_check_trade, d_tally, d_pairs_of, d_first_trade, d__law_start, d__law_draw, d__law_chances, d__law_share, d__law_ratios, d__law_made, d__law_power, d__law_has, d__law_lot, d__law_some_family, d__law_votes_hold, d_law]
def fa : List He.Fa := [.glo "is_integer", .glo "check_number", .glo "lot_of", .glo "others", .glo "all_lots", .glo "code_of", .glo "ascending", .glo "holds", .glo "middle_lots", .glo "least_lots", .glo "is_lot_like", .glo "Family", .glo "votes_of", .glo "Votes", .glo "rows_with_sum", .glo "quota_for", .glo "find_votes", .glo "common_part", .glo "ratio_of", .glo "Ratio", .glo "total", .glo "check_chance", .glo "Chances", .glo "check_share", .glo "gain_of", .glo "middle_gains", .glo "whole_lot", .glo "least_writes", .glo "greatest_writes", .glo "weight_of", .glo "is_heavier", .glo "heavy", .glo "pair_fault", .glo "check_trade", .glo "tally", .glo "pairs_of", .glo "first_trade", .glo "_law_start", .glo "_law_draw", .glo "_law_chances", .glo "_law_share", .glo "_law_ratios", .glo "_law_made", .glo "_law_power", .glo "_law_has", .glo "_law_lot", .glo "_law_some_family", .glo "_law_votes_hold", .glo "law", .glo "CODES", .free "len", .free "isinstance", .free "int", .free "bool", .free "tuple", .free "list", .free "range", .free "sorted", .free "sum", .free "all", .free "any", .free "max", .free "abs", .free "enumerate", .free "NotImplemented", .int "MOST_COPIES" 8, .int "MOST_VOTE" 1000, .int "MOST_FOUND_votes" 5, .int "MOST_SUM" 12, .int "MOST_UNDER" 1000, .int "MOST_FOUND_trades" 5, .cls "Family", .mkr "Family", .noat "Family" "copies", .noat "Family" "lots", .cls "Votes", .mkr "Votes", .noat "Votes" "quota", .noat "Votes" "votes", .cls "Ratio", .mkr "Ratio", .noat "Ratio" "over", .noat "Ratio" "under", .cls "Chances", .mkr "Chances", .noat "Chances" "ratios", .meth "Family" "contains", .meth "Family" "check_like", .meth "Family" "__eq__", .meth "Family" "__or__", .meth "Family" "every", .meth "Family" "wider", .meth "Family" "dual", .meth "Votes" "family", .meth "Votes" "dual", .meth "Ratio" "__eq__", .meth "Ratio" "__lt__", .meth "Ratio" "__gt__", .meth "Ratio" "__ge__", .meth "Ratio" "__sub__", .meth "Ratio" "__rsub__", .meth "Ratio" "__mul__", .meth "Chances" "__len__", .meth "Chances" "__add__", .meth "Chances" "chance_of"]
/-- isinstance of an own class may be asked -/
def isiB (K : PySem.W.Frag) (x : Str) : Bool := He.eqO (PySem.W.findIn K (.ref (He.ga K x)) "__class__") (some (some (.builtin "object.__class__"))) && decide (PySem.W.mroIn K (He.ga K x) (.type "object") = some true)
/-- where Ratio.half's def lies -/
def hfA (K : PySem.W.Frag) : Addr := He5.wf K (He.ga K "Ratio") "staticmethod" "half"
abbrev s_half : Stmt := inClass (top 37) 14
def hfW (K : PySem.W.Frag) : He.FnW := match K.lookup (hfA K) with
  | some ⟨_, _, .func fd, _⟩ => some (fd.name, fd.qualname, fd.params, fd.body, fd.scope, fd.globals, fd.closure, fd.builtins)
  | _ => none
def hfV : He.FnW := some ("half", "Ratio.half", defArgs s_half, .stmts (defBody s_half), defScope s_half, mainGlobals, [], builtinsNs)
/-- further facts, each a look at the written part -/
def xa : List (PySem.W.Frag → Bool) := [
  fun K => He.tupB K "CODES" [.int 1, .int 2, .int 4, .int 8, .int 16, .int 32, .int 64, .int 128],
  fun K => isiB K "Family",
  fun K => isiB K "Ratio",
  fun K => isiB K "Chances",
  fun K => He.eqO (PySem.W.specialIn K (.builtin "object.__class__") "__get__") (some (some (.builtin "getset_descriptor.__get__"))) && decide (PySem.W.takesIn K (.builtin "object.__class__") = some true),
  fun K => PySem.W.selfFirst K (He.ga K "Family") && (PySem.W.selfFirst K (He.ga K "Ratio") && PySem.W.selfFirst K (He.ga K "Chances")),
  fun K => He.eqO (PySem.W.findIn K (.ref (He.ga K "Family")) "__ne__") (some (some (.builtin "object.__ne__"))),
  fun K => decide (PySem.W.kitOne K (.type "int") (.ref (He.ga K "Ratio")) = some false),
  fun K => decide (PySem.W.subIn K (.ref (He.ga K "Ratio")) (.type "int") = some false),
  fun K => He5.wrapB K (He.ga K "Ratio") "staticmethod" "staticmethod.__get__" "half",
  fun K => PySem.W.readsIn K (He.ga K "Ratio") (.type "type") && He.eqO (PySem.W.specialIn K (.ref (He.ga K "Ratio")) "__getattribute__") (some (some (.builtin "type.__getattribute__"))),
  fun K => PySem.W.keepIn K (.ref (hfA K)) && (match K.lookup (hfA K) with
    | some ⟨_, _, .func fd, _⟩ => PySem.W.codeIn K fd.code "Ratio.half" && decide (fd.defaults = .none)
    | _ => false)]
/-- what the head tells -/
structure Ft (K : PySem.W.Frag) (mg : Str → Option Value) : Prop where
  ex : ∃ h : Heap, K.In h ∧ h.Ns mainGlobals mg
  says : He.SaysD fa fn K
  more : (xa.all fun p => p K) = true
  half : hfW K = hfV
theorem Ft.xt {K : PySem.W.Frag} {mg : Str → Option Value} (T : Ft K mg) (i : Nat) {p : PySem.W.Frag → Bool} (h : xa[i]? = some p := by rfl) : p K = true := List.all_eq_true.mp T.more p (List.mem_of_getElem? h)
section
variable {K : PySem.W.Frag} {mg : Str → Option Value}
theorem Ft.glo (T : Ft K mg) (i : Nat) {x : Str} (h : fa[i]? = some (.glo x) := by rfl) : mg x = some (.ref (He.ga K x)) := let ⟨_, X, G⟩ := T.ex; He.glo_ok X G (T.says.fact i h)
theorem Ft.fre (T : Ft K mg) (i : Nat) {x : Str} (h : fa[i]? = some (.free x) := by rfl) : mg x = none := let ⟨_, X, G⟩ := T.ex; He.free_ok X G (T.says.fact i h)
theorem Ft.num (T : Ft K mg) (i : Nat) {x : Str} {n : Int} (h : fa[i]? = some (.int x n) := by rfl) : ∃ u, mg x = some u ∧ RelV (.int n) u := let ⟨_, X, G⟩ := T.ex; let ⟨t, e⟩ := He.int_ok X G (T.says.fact i h); ⟨_, e, t, rfl⟩
theorem Ft.g_is_integer (T : Ft K mg) : mg "is_integer" = some (.ref (He.ga K "is_integer")) := T.glo 0
theorem Ft.g_check_number (T : Ft K mg) : mg "check_number" = some (.ref (He.ga K "check_number")) := T.glo 1
theorem Ft.g_lot_of (T : Ft K mg) : mg "lot_of" = some (.ref (He.ga K "lot_of")) := T.glo 2
theorem Ft.g_others (T : Ft K mg) : mg "others" = some (.ref (He.ga K "others")) := T.glo 3
theorem Ft.g_all_lots (T : Ft K mg) : mg "all_lots" = some (.ref (He.ga K "all_lots")) := T.glo 4
theorem Ft.g_code_of (T : Ft K mg) : mg "code_of" = some (.ref (He.ga K "code_of")) := T.glo 5
theorem Ft.g_ascending (T : Ft K mg) : mg "ascending" = some (.ref (He.ga K "ascending")) := T.glo 6
theorem Ft.g_holds (T : Ft K mg) : mg "holds" = some (.ref (He.ga K "holds")) := T.glo 7
theorem Ft.g_middle_lots (T : Ft K mg) : mg "middle_lots" = some (.ref (He.ga K "middle_lots")) := T.glo 8
theorem Ft.g_least_lots (T : Ft K mg) : mg "least_lots" = some (.ref (He.ga K "least_lots")) := T.glo 9
theorem Ft.g_is_lot_like (T : Ft K mg) : mg "is_lot_like" = some (.ref (He.ga K "is_lot_like")) := T.glo 10
theorem Ft.g_Family (T : Ft K mg) : mg "Family" = some (.ref (He.ga K "Family")) := T.glo 11
theorem Ft.g_votes_of (T : Ft K mg) : mg "votes_of" = some (.ref (He.ga K "votes_of")) := T.glo 12
theorem Ft.g_Votes (T : Ft K mg) : mg "Votes" = some (.ref (He.ga K "Votes")) := T.glo 13
theorem Ft.g_rows_with_sum (T : Ft K mg) : mg "rows_with_sum" = some (.ref (He.ga K "rows_with_sum")) := T.glo 14
theorem Ft.g_quota_for (T : Ft K mg) : mg "quota_for" = some (.ref (He.ga K "quota_for")) := T.glo 15
theorem Ft.g_find_votes (T : Ft K mg) : mg "find_votes" = some (.ref (He.ga K "find_votes")) := T.glo 16
theorem Ft.g_common_part (T : Ft K mg) : mg "common_part" = some (.ref (He.ga K "common_part")) := T.glo 17
theorem Ft.g_ratio_of (T : Ft K mg) : mg "ratio_of" = some (.ref (He.ga K "ratio_of")) := T.glo 18
theorem Ft.g_Ratio (T : Ft K mg) : mg "Ratio" = some (.ref (He.ga K "Ratio")) := T.glo 19
theorem Ft.g_total (T : Ft K mg) : mg "total" = some (.ref (He.ga K "total")) := T.glo 20
theorem Ft.g_check_chance (T : Ft K mg) : mg "check_chance" = some (.ref (He.ga K "check_chance")) := T.glo 21
theorem Ft.g_Chances (T : Ft K mg) : mg "Chances" = some (.ref (He.ga K "Chances")) := T.glo 22
theorem Ft.g_check_share (T : Ft K mg) : mg "check_share" = some (.ref (He.ga K "check_share")) := T.glo 23
theorem Ft.g_gain_of (T : Ft K mg) : mg "gain_of" = some (.ref (He.ga K "gain_of")) := T.glo 24
theorem Ft.g_middle_gains (T : Ft K mg) : mg "middle_gains" = some (.ref (He.ga K "middle_gains")) := T.glo 25
theorem Ft.g_whole_lot (T : Ft K mg) : mg "whole_lot" = some (.ref (He.ga K "whole_lot")) := T.glo 26
theorem Ft.g_least_writes (T : Ft K mg) : mg "least_writes" = some (.ref (He.ga K "least_writes")) := T.glo 27
theorem Ft.g_greatest_writes (T : Ft K mg) : mg "greatest_writes" = some (.ref (He.ga K "greatest_writes")) := T.glo 28
theorem Ft.g_weight_of (T : Ft K mg) : mg "weight_of" = some (.ref (He.ga K "weight_of")) := T.glo 29
theorem Ft.g_is_heavier (T : Ft K mg) : mg "is_heavier" = some (.ref (He.ga K "is_heavier")) := T.glo 30
theorem Ft.g_heavy (T : Ft K mg) : mg "heavy" = some (.ref (He.ga K "heavy")) := T.glo 31
theorem Ft.g_pair_fault (T : Ft K mg) : mg "pair_fault" = some (.ref (He.ga K "pair_fault")) := T.glo 32
theorem Ft.g_check_trade (T : Ft K mg) : mg "check_trade" = some (.ref (He.ga K "check_trade")) := T.glo 33
theorem Ft.g_tally (T : Ft K mg) : mg "tally" = some (.ref (He.ga K "tally")) := T.glo 34
theorem Ft.g_pairs_of (T : Ft K mg) : mg "pairs_of" = some (.ref (He.ga K "pairs_of")) := T.glo 35
theorem Ft.g_first_trade (T : Ft K mg) : mg "first_trade" = some (.ref (He.ga K "first_trade")) := T.glo 36
theorem Ft.g__law_start (T : Ft K mg) : mg "_law_start" = some (.ref (He.ga K "_law_start")) := T.glo 37
theorem Ft.g__law_draw (T : Ft K mg) : mg "_law_draw" = some (.ref (He.ga K "_law_draw")) := T.glo 38
theorem Ft.g__law_chances (T : Ft K mg) : mg "_law_chances" = some (.ref (He.ga K "_law_chances")) := T.glo 39
theorem Ft.g__law_share (T : Ft K mg) : mg "_law_share" = some (.ref (He.ga K "_law_share")) := T.glo 40
theorem Ft.g__law_ratios (T : Ft K mg) : mg "_law_ratios" = some (.ref (He.ga K "_law_ratios")) := T.glo 41
theorem Ft.g__law_made (T : Ft K mg) : mg "_law_made" = some (.ref (He.ga K "_law_made")) := T.glo 42
theorem Ft.g__law_power (T : Ft K mg) : mg "_law_power" = some (.ref (He.ga K "_law_power")) := T.glo 43
theorem Ft.g__law_has (T : Ft K mg) : mg "_law_has" = some (.ref (He.ga K "_law_has")) := T.glo 44
theorem Ft.g__law_lot (T : Ft K mg) : mg "_law_lot" = some (.ref (He.ga K "_law_lot")) := T.glo 45
theorem Ft.g__law_some_family (T : Ft K mg) : mg "_law_some_family" = some (.ref (He.ga K "_law_some_family")) := T.glo 46
theorem Ft.g__law_votes_hold (T : Ft K mg) : mg "_law_votes_hold" = some (.ref (He.ga K "_law_votes_hold")) := T.glo 47
theorem Ft.g_law (T : Ft K mg) : mg "law" = some (.ref (He.ga K "law")) := T.glo 48
theorem Ft.g_CODES (T : Ft K mg) : mg "CODES" = some (.ref (He.ga K "CODES")) := T.glo 49
theorem Ft.z_len (T : Ft K mg) : mg "len" = none := T.fre 50
theorem Ft.z_isinstance (T : Ft K mg) : mg "isinstance" = none := T.fre 51
theorem Ft.z_int (T : Ft K mg) : mg "int" = none := T.fre 52
theorem Ft.z_bool (T : Ft K mg) : mg "bool" = none := T.fre 53
theorem Ft.z_tuple (T : Ft K mg) : mg "tuple" = none := T.fre 54
theorem Ft.z_list (T : Ft K mg) : mg "list" = none := T.fre 55
theorem Ft.z_range (T : Ft K mg) : mg "range" = none := T.fre 56
theorem Ft.z_sorted (T : Ft K mg) : mg "sorted" = none := T.fre 57
theorem Ft.z_sum (T : Ft K mg) : mg "sum" = none := T.fre 58
theorem Ft.z_all (T : Ft K mg) : mg "all" = none := T.fre 59
theorem Ft.z_any (T : Ft K mg) : mg "any" = none := T.fre 60
theorem Ft.z_max (T : Ft K mg) : mg "max" = none := T.fre 61
theorem Ft.z_abs (T : Ft K mg) : mg "abs" = none := T.fre 62
theorem Ft.z_enumerate (T : Ft K mg) : mg "enumerate" = none := T.fre 63
theorem Ft.z_NotImplemented (T : Ft K mg) : mg "NotImplemented" = none := T.fre 64
theorem Ft.i_MOST_COPIES (T : Ft K mg) : ∃ u, mg "MOST_COPIES" = some u ∧ RelV (.int 8) u := T.num 65
theorem Ft.i_MOST_VOTE (T : Ft K mg) : ∃ u, mg "MOST_VOTE" = some u ∧ RelV (.int 1000) u := T.num 66
theorem Ft.i_MOST_FOUND_votes (T : Ft K mg) : ∃ u, mg "MOST_FOUND_votes" = some u ∧ RelV (.int 5) u := T.num 67
theorem Ft.i_MOST_SUM (T : Ft K mg) : ∃ u, mg "MOST_SUM" = some u ∧ RelV (.int 12) u := T.num 68
theorem Ft.i_MOST_UNDER (T : Ft K mg) : ∃ u, mg "MOST_UNDER" = some u ∧ RelV (.int 1000) u := T.num 69
theorem Ft.i_MOST_FOUND_trades (T : Ft K mg) : ∃ u, mg "MOST_FOUND_trades" = some u ∧ RelV (.int 5) u := T.num 70
theorem Ft.c_Family (T : Ft K mg) : Cls K (He.ga K "Family") := He.cls_ok (T.says.fact 71)
theorem Ft.m_Family (T : Ft K mg) : Mk K (He.ga K "Family") (He.ma K (He.ga K "Family") "__init__") := He.mkr_ok (T.says.fact 72)
theorem Ft.n_Family_copies (T : Ft K mg) : NoAttr K (He.ga K "Family") "copies" := He.noat_ok (T.says.fact 73)
theorem Ft.n_Family_lots (T : Ft K mg) : NoAttr K (He.ga K "Family") "lots" := He.noat_ok (T.says.fact 74)
theorem Ft.c_Votes (T : Ft K mg) : Cls K (He.ga K "Votes") := He.cls_ok (T.says.fact 75)
theorem Ft.m_Votes (T : Ft K mg) : Mk K (He.ga K "Votes") (He.ma K (He.ga K "Votes") "__init__") := He.mkr_ok (T.says.fact 76)
theorem Ft.n_Votes_quota (T : Ft K mg) : NoAttr K (He.ga K "Votes") "quota" := He.noat_ok (T.says.fact 77)
theorem Ft.n_Votes_votes (T : Ft K mg) : NoAttr K (He.ga K "Votes") "votes" := He.noat_ok (T.says.fact 78)
theorem Ft.c_Ratio (T : Ft K mg) : Cls K (He.ga K "Ratio") := He.cls_ok (T.says.fact 79)
theorem Ft.m_Ratio (T : Ft K mg) : Mk K (He.ga K "Ratio") (He.ma K (He.ga K "Ratio") "__init__") := He.mkr_ok (T.says.fact 80)
theorem Ft.n_Ratio_over (T : Ft K mg) : NoAttr K (He.ga K "Ratio") "over" := He.noat_ok (T.says.fact 81)
theorem Ft.n_Ratio_under (T : Ft K mg) : NoAttr K (He.ga K "Ratio") "under" := He.noat_ok (T.says.fact 82)
theorem Ft.c_Chances (T : Ft K mg) : Cls K (He.ga K "Chances") := He.cls_ok (T.says.fact 83)
theorem Ft.m_Chances (T : Ft K mg) : Mk K (He.ga K "Chances") (He.ma K (He.ga K "Chances") "__init__") := He.mkr_ok (T.says.fact 84)
theorem Ft.n_Chances_ratios (T : Ft K mg) : NoAttr K (He.ga K "Chances") "ratios" := He.noat_ok (T.says.fact 85)
theorem Ft.t_Family_contains (T : Ft K mg) : Meth K (He.ga K "Family") "contains" (He.ma K (He.ga K "Family") "contains") := He.meth_ok (T.says.fact 86)
theorem Ft.t_Family_check_like (T : Ft K mg) : Meth K (He.ga K "Family") "check_like" (He.ma K (He.ga K "Family") "check_like") := He.meth_ok (T.says.fact 87)
theorem Ft.t_Family_eq (T : Ft K mg) : Meth K (He.ga K "Family") "__eq__" (He.ma K (He.ga K "Family") "__eq__") := He.meth_ok (T.says.fact 88)
theorem Ft.t_Family_or (T : Ft K mg) : Meth K (He.ga K "Family") "__or__" (He.ma K (He.ga K "Family") "__or__") := He.meth_ok (T.says.fact 89)
theorem Ft.t_Family_every (T : Ft K mg) : Meth K (He.ga K "Family") "every" (He.ma K (He.ga K "Family") "every") := He.meth_ok (T.says.fact 90)
theorem Ft.t_Family_wider (T : Ft K mg) : Meth K (He.ga K "Family") "wider" (He.ma K (He.ga K "Family") "wider") := He.meth_ok (T.says.fact 91)
theorem Ft.t_Family_dual (T : Ft K mg) : Meth K (He.ga K "Family") "dual" (He.ma K (He.ga K "Family") "dual") := He.meth_ok (T.says.fact 92)
theorem Ft.t_Votes_family (T : Ft K mg) : Meth K (He.ga K "Votes") "family" (He.ma K (He.ga K "Votes") "family") := He.meth_ok (T.says.fact 93)
theorem Ft.t_Votes_dual (T : Ft K mg) : Meth K (He.ga K "Votes") "dual" (He.ma K (He.ga K "Votes") "dual") := He.meth_ok (T.says.fact 94)
theorem Ft.t_Ratio_eq (T : Ft K mg) : Meth K (He.ga K "Ratio") "__eq__" (He.ma K (He.ga K "Ratio") "__eq__") := He.meth_ok (T.says.fact 95)
theorem Ft.t_Ratio_lt (T : Ft K mg) : Meth K (He.ga K "Ratio") "__lt__" (He.ma K (He.ga K "Ratio") "__lt__") := He.meth_ok (T.says.fact 96)
theorem Ft.t_Ratio_gt (T : Ft K mg) : Meth K (He.ga K "Ratio") "__gt__" (He.ma K (He.ga K "Ratio") "__gt__") := He.meth_ok (T.says.fact 97)
theorem Ft.t_Ratio_ge (T : Ft K mg) : Meth K (He.ga K "Ratio") "__ge__" (He.ma K (He.ga K "Ratio") "__ge__") := He.meth_ok (T.says.fact 98)
theorem Ft.t_Ratio_sub (T : Ft K mg) : Meth K (He.ga K "Ratio") "__sub__" (He.ma K (He.ga K "Ratio") "__sub__") := He.meth_ok (T.says.fact 99)
theorem Ft.t_Ratio_rsub (T : Ft K mg) : Meth K (He.ga K "Ratio") "__rsub__" (He.ma K (He.ga K "Ratio") "__rsub__") := He.meth_ok (T.says.fact 100)
theorem Ft.t_Ratio_mul (T : Ft K mg) : Meth K (He.ga K "Ratio") "__mul__" (He.ma K (He.ga K "Ratio") "__mul__") := He.meth_ok (T.says.fact 101)
theorem Ft.t_Chances_len (T : Ft K mg) : Meth K (He.ga K "Chances") "__len__" (He.ma K (He.ga K "Chances") "__len__") := He.meth_ok (T.says.fact 102)
theorem Ft.t_Chances_add (T : Ft K mg) : Meth K (He.ga K "Chances") "__add__" (He.ma K (He.ga K "Chances") "__add__") := He.meth_ok (T.says.fact 103)
theorem Ft.t_Chances_chance_of (T : Ft K mg) : Meth K (He.ga K "Chances") "chance_of" (He.ma K (He.ga K "Chances") "chance_of") := He.meth_ok (T.says.fact 104)
theorem Ft.f_is_integer (T : Ft K mg) : ∃ fd, FunD K "is_integer" "is_integer" (defArgs s_is_integer) (defBody s_is_integer) (defScope s_is_integer) [] [] (He.ga K "is_integer") fd := T.says.def_ 0 (d := d_is_integer)
theorem Ft.f_check_number (T : Ft K mg) : ∃ fd, FunD K "check_number" "check_number" (defArgs s_check_number) (defBody s_check_number) (defScope s_check_number) [] [] (He.ga K "check_number") fd := T.says.def_ 1 (d := d_check_number)
theorem Ft.f_lot_of (T : Ft K mg) : ∃ fd, FunD K "lot_of" "lot_of" (defArgs s_lot_of) (defBody s_lot_of) (defScope s_lot_of) [] [] (He.ga K "lot_of") fd := T.says.def_ 2 (d := d_lot_of)
theorem Ft.f_others (T : Ft K mg) : ∃ fd, FunD K "others" "others" (defArgs s_others) (defBody s_others) (defScope s_others) [] [] (He.ga K "others") fd := T.says.def_ 3 (d := d_others)
theorem Ft.f_all_lots (T : Ft K mg) : ∃ fd, FunD K "all_lots" "all_lots" (defArgs s_all_lots) (defBody s_all_lots) (defScope s_all_lots) [] [] (He.ga K "all_lots") fd := T.says.def_ 4 (d := d_all_lots)
theorem Ft.f_code_of (T : Ft K mg) : ∃ fd, FunD K "code_of" "code_of" (defArgs s_code_of) (defBody s_code_of) (defScope s_code_of) [] [] (He.ga K "code_of") fd := T.says.def_ 5 (d := d_code_of)
theorem Ft.f_ascending (T : Ft K mg) : ∃ fd, FunD K "ascending" "ascending" (defArgs s_ascending) (defBody s_ascending) (defScope s_ascending) [] [] (He.ga K "ascending") fd := T.says.def_ 6 (d := d_ascending)
theorem Ft.f_holds (T : Ft K mg) : ∃ fd, FunD K "holds" "holds" (defArgs s_holds) (defBody s_holds) (defScope s_holds) [] [] (He.ga K "holds") fd := T.says.def_ 7 (d := d_holds)
theorem Ft.f_middle_lots (T : Ft K mg) : ∃ fd, FunD K "middle_lots" "middle_lots" (defArgs s_middle_lots) (defBody s_middle_lots) (defScope s_middle_lots) [] [] (He.ga K "middle_lots") fd := T.says.def_ 8 (d := d_middle_lots)
theorem Ft.f_least_lots (T : Ft K mg) : ∃ fd, FunD K "least_lots" "least_lots" (defArgs s_least_lots) (defBody s_least_lots) (defScope s_least_lots) [] [] (He.ga K "least_lots") fd := T.says.def_ 9 (d := d_least_lots)
theorem Ft.f_is_lot_like (T : Ft K mg) : ∃ fd, FunD K "is_lot_like" "is_lot_like" (defArgs s_is_lot_like) (defBody s_is_lot_like) (defScope s_is_lot_like) [] [] (He.ga K "is_lot_like") fd := T.says.def_ 10 (d := d_is_lot_like)
theorem Ft.f_Family_init (T : Ft K mg) : ∃ fd, FunD K "__init__" "Family.__init__" (defArgs s_Family_init) (defBody s_Family_init) (defScope s_Family_init) [] [] (He.ma K (He.ga K "Family") "__init__") fd := T.says.def_ 11 (d := d_Family_init)
theorem Ft.f_Family_contains (T : Ft K mg) : ∃ fd, FunD K "contains" "Family.contains" (defArgs s_Family_contains) (defBody s_Family_contains) (defScope s_Family_contains) [] [] (He.ma K (He.ga K "Family") "contains") fd := T.says.def_ 12 (d := d_Family_contains)
theorem Ft.f_Family_check_like (T : Ft K mg) : ∃ fd, FunD K "check_like" "Family.check_like" (defArgs s_Family_check_like) (defBody s_Family_check_like) (defScope s_Family_check_like) [] [] (He.ma K (He.ga K "Family") "check_like") fd := T.says.def_ 13 (d := d_Family_check_like)
theorem Ft.f_Family_eq (T : Ft K mg) : ∃ fd, FunD K "__eq__" "Family.__eq__" (defArgs s_Family_eq) (defBody s_Family_eq) (defScope s_Family_eq) [] [] (He.ma K (He.ga K "Family") "__eq__") fd := T.says.def_ 14 (d := d_Family_eq)
theorem Ft.f_Family_or (T : Ft K mg) : ∃ fd, FunD K "__or__" "Family.__or__" (defArgs s_Family_or) (defBody s_Family_or) (defScope s_Family_or) [] [] (He.ma K (He.ga K "Family") "__or__") fd := T.says.def_ 15 (d := d_Family_or)
theorem Ft.f_Family_every (T : Ft K mg) : ∃ fd, FunD K "every" "Family.every" (defArgs s_Family_every) (defBody s_Family_every) (defScope s_Family_every) [] [] (He.ma K (He.ga K "Family") "every") fd := T.says.def_ 16 (d := d_Family_every)
theorem Ft.f_Family_wider (T : Ft K mg) : ∃ fd, FunD K "wider" "Family.wider" (defArgs s_Family_wider) (defBody s_Family_wider) (defScope s_Family_wider) [] [] (He.ma K (He.ga K "Family") "wider") fd := T.says.def_ 17 (d := d_Family_wider)
theorem Ft.f_Family_dual (T : Ft K mg) : ∃ fd, FunD K "dual" "Family.dual" (defArgs s_Family_dual) (defBody s_Family_dual) (defScope s_Family_dual) [] [] (He.ma K (He.ga K "Family") "dual") fd := T.says.def_ 18 (d := d_Family_dual)
theorem Ft.f_votes_of (T : Ft K mg) : ∃ fd, FunD K "votes_of" "votes_of" (defArgs s_votes_of) (defBody s_votes_of) (defScope s_votes_of) [] [] (He.ga K "votes_of") fd := T.says.def_ 19 (d := d_votes_of)
theorem Ft.f_Votes_init (T : Ft K mg) : ∃ fd, FunD K "__init__" "Votes.__init__" (defArgs s_Votes_init) (defBody s_Votes_init) (defScope s_Votes_init) [] [] (He.ma K (He.ga K "Votes") "__init__") fd := T.says.def_ 20 (d := d_Votes_init)
theorem Ft.f_Votes_family (T : Ft K mg) : ∃ fd, FunD K "family" "Votes.family" (defArgs s_Votes_family) (defBody s_Votes_family) (defScope s_Votes_family) [] [] (He.ma K (He.ga K "Votes") "family") fd := T.says.def_ 21 (d := d_Votes_family)
theorem Ft.f_Votes_dual (T : Ft K mg) : ∃ fd, FunD K "dual" "Votes.dual" (defArgs s_Votes_dual) (defBody s_Votes_dual) (defScope s_Votes_dual) [] [] (He.ma K (He.ga K "Votes") "dual") fd := T.says.def_ 22 (d := d_Votes_dual)
theorem Ft.f_rows_with_sum (T : Ft K mg) : ∃ fd, FunD K "rows_with_sum" "rows_with_sum" (defArgs s_rows_with_sum) (defBody s_rows_with_sum) (defScope s_rows_with_sum) [] [] (He.ga K "rows_with_sum") fd := T.says.def_ 23 (d := d_rows_with_sum)
theorem Ft.f_quota_for (T : Ft K mg) : ∃ fd, FunD K "quota_for" "quota_for" (defArgs s_quota_for) (defBody s_quota_for) (defScope s_quota_for) [] [] (He.ga K "quota_for") fd := T.says.def_ 24 (d := d_quota_for)
theorem Ft.f_find_votes (T : Ft K mg) : ∃ fd, FunD K "find_votes" "find_votes" (defArgs s_find_votes) (defBody s_find_votes) (defScope s_find_votes) [] [] (He.ga K "find_votes") fd := T.says.def_ 25 (d := d_find_votes)
theorem Ft.f_common_part (T : Ft K mg) : ∃ fd, FunD K "common_part" "common_part" (defArgs s_common_part) (defBody s_common_part) (defScope s_common_part) [] [] (He.ga K "common_part") fd := T.says.def_ 26 (d := d_common_part)
theorem Ft.f_ratio_of (T : Ft K mg) : ∃ fd, FunD K "ratio_of" "ratio_of" (defArgs s_ratio_of) (defBody s_ratio_of) (defScope s_ratio_of) [] [] (He.ga K "ratio_of") fd := T.says.def_ 27 (d := d_ratio_of)
theorem Ft.f_Ratio_init (T : Ft K mg) : ∃ fd, FunD K "__init__" "Ratio.__init__" (defArgs s_Ratio_init) (defBody s_Ratio_init) (defScope s_Ratio_init) [V.int 1] [] (He.ma K (He.ga K "Ratio") "__init__") fd := T.says.def_ 28 (d := d_Ratio_init)
theorem Ft.f_Ratio_eq (T : Ft K mg) : ∃ fd, FunD K "__eq__" "Ratio.__eq__" (defArgs s_Ratio_eq) (defBody s_Ratio_eq) (defScope s_Ratio_eq) [] [] (He.ma K (He.ga K "Ratio") "__eq__") fd := T.says.def_ 29 (d := d_Ratio_eq)
theorem Ft.f_Ratio_lt (T : Ft K mg) : ∃ fd, FunD K "__lt__" "Ratio.__lt__" (defArgs s_Ratio_lt) (defBody s_Ratio_lt) (defScope s_Ratio_lt) [] [] (He.ma K (He.ga K "Ratio") "__lt__") fd := T.says.def_ 30 (d := d_Ratio_lt)
theorem Ft.f_Ratio_gt (T : Ft K mg) : ∃ fd, FunD K "__gt__" "Ratio.__gt__" (defArgs s_Ratio_gt) (defBody s_Ratio_gt) (defScope s_Ratio_gt) [] [] (He.ma K (He.ga K "Ratio") "__gt__") fd := T.says.def_ 31 (d := d_Ratio_gt)
theorem Ft.f_Ratio_ge (T : Ft K mg) : ∃ fd, FunD K "__ge__" "Ratio.__ge__" (defArgs s_Ratio_ge) (defBody s_Ratio_ge) (defScope s_Ratio_ge) [] [] (He.ma K (He.ga K "Ratio") "__ge__") fd := T.says.def_ 32 (d := d_Ratio_ge)
theorem Ft.f_Ratio_sub (T : Ft K mg) : ∃ fd, FunD K "__sub__" "Ratio.__sub__" (defArgs s_Ratio_sub) (defBody s_Ratio_sub) (defScope s_Ratio_sub) [] [] (He.ma K (He.ga K "Ratio") "__sub__") fd := T.says.def_ 33 (d := d_Ratio_sub)
theorem Ft.f_Ratio_rsub (T : Ft K mg) : ∃ fd, FunD K "__rsub__" "Ratio.__rsub__" (defArgs s_Ratio_rsub) (defBody s_Ratio_rsub) (defScope s_Ratio_rsub) [] [] (He.ma K (He.ga K "Ratio") "__rsub__") fd := T.says.def_ 34 (d := d_Ratio_rsub)
theorem Ft.f_Ratio_mul (T : Ft K mg) : ∃ fd, FunD K "__mul__" "Ratio.__mul__" (defArgs s_Ratio_mul) (defBody s_Ratio_mul) (defScope s_Ratio_mul) [] [] (He.ma K (He.ga K "Ratio") "__mul__") fd := T.says.def_ 35 (d := d_Ratio_mul)
theorem Ft.f_total (T : Ft K mg) : ∃ fd, FunD K "total" "total" (defArgs s_total) (defBody s_total) (defScope s_total) [] [] (He.ga K "total") fd := T.says.def_ 36 (d := d_total)
theorem Ft.f_check_chance (T : Ft K mg) : ∃ fd, FunD K "check_chance" "check_chance" (defArgs s_check_chance) (defBody s_check_chance) (defScope s_check_chance) [] [] (He.ga K "check_chance") fd := T.says.def_ 37 (d := d_check_chance)
theorem Ft.f_Chances_init (T : Ft K mg) : ∃ fd, FunD K "__init__" "Chances.__init__" (defArgs s_Chances_init) (defBody s_Chances_init) (defScope s_Chances_init) [] [] (He.ma K (He.ga K "Chances") "__init__") fd := T.says.def_ 38 (d := d_Chances_init)
theorem Ft.f_Chances_len (T : Ft K mg) : ∃ fd, FunD K "__len__" "Chances.__len__" (defArgs s_Chances_len) (defBody s_Chances_len) (defScope s_Chances_len) [] [] (He.ma K (He.ga K "Chances") "__len__") fd := T.says.def_ 39 (d := d_Chances_len)
theorem Ft.f_Chances_add (T : Ft K mg) : ∃ fd, FunD K "__add__" "Chances.__add__" (defArgs s_Chances_add) (defBody s_Chances_add) (defScope s_Chances_add) [] [] (He.ma K (He.ga K "Chances") "__add__") fd := T.says.def_ 40 (d := d_Chances_add)
theorem Ft.f_Chances_chance_of (T : Ft K mg) : ∃ fd, FunD K "chance_of" "Chances.chance_of" (defArgs s_Chances_chance_of) (defBody s_Chances_chance_of) (defScope s_Chances_chance_of) [] [] (He.ma K (He.ga K "Chances") "chance_of") fd := T.says.def_ 41 (d := d_Chances_chance_of)
theorem Ft.f_check_share (T : Ft K mg) : ∃ fd, FunD K "check_share" "check_share" (defArgs s_check_share) (defBody s_check_share) (defScope s_check_share) [] [] (He.ga K "check_share") fd := T.says.def_ 42 (d := d_check_share)
theorem Ft.f_gain_of (T : Ft K mg) : ∃ fd, FunD K "gain_of" "gain_of" (defArgs s_gain_of) (defBody s_gain_of) (defScope s_gain_of) [] [] (He.ga K "gain_of") fd := T.says.def_ 43 (d := d_gain_of)
theorem Ft.f_middle_gains (T : Ft K mg) : ∃ fd, FunD K "middle_gains" "middle_gains" (defArgs s_middle_gains) (defBody s_middle_gains) (defScope s_middle_gains) [] [] (He.ga K "middle_gains") fd := T.says.def_ 44 (d := d_middle_gains)
theorem Ft.f_whole_lot (T : Ft K mg) : ∃ fd, FunD K "whole_lot" "whole_lot" (defArgs s_whole_lot) (defBody s_whole_lot) (defScope s_whole_lot) [] [] (He.ga K "whole_lot") fd := T.says.def_ 45 (d := d_whole_lot)
theorem Ft.f_least_writes (T : Ft K mg) : ∃ fd, FunD K "least_writes" "least_writes" (defArgs s_least_writes) (defBody s_least_writes) (defScope s_least_writes) [] [] (He.ga K "least_writes") fd := T.says.def_ 46 (d := d_least_writes)
theorem Ft.f_greatest_writes (T : Ft K mg) : ∃ fd, FunD K "greatest_writes" "greatest_writes" (defArgs s_greatest_writes) (defBody s_greatest_writes) (defScope s_greatest_writes) [] [] (He.ga K "greatest_writes") fd := T.says.def_ 47 (d := d_greatest_writes)
theorem Ft.f_weight_of (T : Ft K mg) : ∃ fd, FunD K "weight_of" "weight_of" (defArgs s_weight_of) (defBody s_weight_of) (defScope s_weight_of) [] [] (He.ga K "weight_of") fd := T.says.def_ 48 (d := d_weight_of)
theorem Ft.f_is_heavier (T : Ft K mg) : ∃ fd, FunD K "is_heavier" "is_heavier" (defArgs s_is_heavier) (defBody s_is_heavier) (defScope s_is_heavier) [] [] (He.ga K "is_heavier") fd := T.says.def_ 49 (d := d_is_heavier)
theorem Ft.f_heavy (T : Ft K mg) : ∃ fd, FunD K "heavy" "heavy" (defArgs s_heavy) (defBody s_heavy) (defScope s_heavy) [] [] (He.ga K "heavy") fd := T.says.def_ 50 (d := d_heavy)
theorem Ft.f_pair_fault (T : Ft K mg) : ∃ fd, FunD K "pair_fault" "pair_fault" (defArgs s_pair_fault) (defBody s_pair_fault) (defScope s_pair_fault) [] [] (He.ga K "pair_fault") fd := T.says.def_ 51 (d := d_pair_fault)
theorem Ft.f_check_trade (T : Ft K mg) : ∃ fd, FunD K "check_trade" "check_trade" (defArgs s_check_trade) (defBody s_check_trade) (defScope s_check_trade) [] [] (He.ga K "check_trade") fd := T.says.def_ 52 (d := d_check_trade)
theorem Ft.f_tally (T : Ft K mg) : ∃ fd, FunD K "tally" "tally" (defArgs s_tally) (defBody s_tally) (defScope s_tally) [] [] (He.ga K "tally") fd := T.says.def_ 53 (d := d_tally)
theorem Ft.f_pairs_of (T : Ft K mg) : ∃ fd, FunD K "pairs_of" "pairs_of" (defArgs s_pairs_of) (defBody s_pairs_of) (defScope s_pairs_of) [] [] (He.ga K "pairs_of") fd := T.says.def_ 54 (d := d_pairs_of)
theorem Ft.f_first_trade (T : Ft K mg) : ∃ fd, FunD K "first_trade" "first_trade" (defArgs s_first_trade) (defBody s_first_trade) (defScope s_first_trade) [] [] (He.ga K "first_trade") fd := T.says.def_ 55 (d := d_first_trade)
theorem Ft.f__law_start (T : Ft K mg) : ∃ fd, FunD K "_law_start" "_law_start" (defArgs s__law_start) (defBody s__law_start) (defScope s__law_start) [] [] (He.ga K "_law_start") fd := T.says.def_ 56 (d := d__law_start)
theorem Ft.f__law_draw (T : Ft K mg) : ∃ fd, FunD K "_law_draw" "_law_draw" (defArgs s__law_draw) (defBody s__law_draw) (defScope s__law_draw) [] [] (He.ga K "_law_draw") fd := T.says.def_ 57 (d := d__law_draw)
theorem Ft.f__law_chances (T : Ft K mg) : ∃ fd, FunD K "_law_chances" "_law_chances" (defArgs s__law_chances) (defBody s__law_chances) (defScope s__law_chances) [] [] (He.ga K "_law_chances") fd := T.says.def_ 58 (d := d__law_chances)
theorem Ft.f__law_share (T : Ft K mg) : ∃ fd, FunD K "_law_share" "_law_share" (defArgs s__law_share) (defBody s__law_share) (defScope s__law_share) [] [] (He.ga K "_law_share") fd := T.says.def_ 59 (d := d__law_share)
theorem Ft.f__law_ratios (T : Ft K mg) : ∃ fd, FunD K "_law_ratios" "_law_ratios" (defArgs s__law_ratios) (defBody s__law_ratios) (defScope s__law_ratios) [] [] (He.ga K "_law_ratios") fd := T.says.def_ 60 (d := d__law_ratios)
theorem Ft.f__law_made (T : Ft K mg) : ∃ fd, FunD K "_law_made" "_law_made" (defArgs s__law_made) (defBody s__law_made) (defScope s__law_made) [] [] (He.ga K "_law_made") fd := T.says.def_ 61 (d := d__law_made)
theorem Ft.f__law_power (T : Ft K mg) : ∃ fd, FunD K "_law_power" "_law_power" (defArgs s__law_power) (defBody s__law_power) (defScope s__law_power) [] [] (He.ga K "_law_power") fd := T.says.def_ 62 (d := d__law_power)
theorem Ft.f__law_has (T : Ft K mg) : ∃ fd, FunD K "_law_has" "_law_has" (defArgs s__law_has) (defBody s__law_has) (defScope s__law_has) [] [] (He.ga K "_law_has") fd := T.says.def_ 63 (d := d__law_has)
theorem Ft.f__law_lot (T : Ft K mg) : ∃ fd, FunD K "_law_lot" "_law_lot" (defArgs s__law_lot) (defBody s__law_lot) (defScope s__law_lot) [] [] (He.ga K "_law_lot") fd := T.says.def_ 64 (d := d__law_lot)
theorem Ft.f__law_some_family (T : Ft K mg) : ∃ fd, FunD K "_law_some_family" "_law_some_family" (defArgs s__law_some_family) (defBody s__law_some_family) (defScope s__law_some_family) [] [] (He.ga K "_law_some_family") fd := T.says.def_ 65 (d := d__law_some_family)
theorem Ft.f__law_votes_hold (T : Ft K mg) : ∃ fd, FunD K "_law_votes_hold" "_law_votes_hold" (defArgs s__law_votes_hold) (defBody s__law_votes_hold) (defScope s__law_votes_hold) [] [] (He.ga K "_law_votes_hold") fd := T.says.def_ 66 (d := d__law_votes_hold)
theorem Ft.f_law (T : Ft K mg) : ∃ fd, FunD K "law" "law" (defArgs s_law) (defBody s_law) (defScope s_law) [] [] (He.ga K "law") fd := T.says.def_ 67 (d := d_law)
theorem Ft.codes (T : Ft K mg) (H : Hp) : SqT K H (He.ga K "CODES") ([1, 2, 4, 8, 16, 32, 64, 128].map V.int) := He.tupB_ok (T.xt 0) H
theorem isi_ok {K : PySem.W.Frag} {mg : Str → Option Value} (T : Ft K mg) {x : Str} (h : isiB K x = true) (c : Cls K (He.ga K x)) {H : Hp} {a dx : Addr} {fs : List (Str × V)} (e : H a = some (.ins (He.ga K x) dx fs)) : TyOf K H (.ref a) (.ref (He.ga K x)) := by
  obtain ⟨h1, h2⟩ := He.ba h
  obtain ⟨h3, h4⟩ := He.ba (T.xt 4)
  exact .ins e c (He.eqO_ok h1) (He.eqO_ok h3) (of_decide_eq_true h4) (of_decide_eq_true h2)
theorem Ft.ty_Family (T : Ft K mg) {H : Hp} {a dx : Addr} {fs : List (Str × V)} (e : H a = some (.ins (He.ga K "Family") dx fs)) : TyOf K H (.ref a) (.ref (He.ga K "Family")) := isi_ok T (T.xt 1) T.c_Family e
theorem Ft.ty_Ratio (T : Ft K mg) {H : Hp} {a dx : Addr} {fs : List (Str × V)} (e : H a = some (.ins (He.ga K "Ratio") dx fs)) : TyOf K H (.ref a) (.ref (He.ga K "Ratio")) := isi_ok T (T.xt 2) T.c_Ratio e
theorem Ft.ty_Chances (T : Ft K mg) {H : Hp} {a dx : Addr} {fs : List (Str × V)} (e : H a = some (.ins (He.ga K "Chances") dx fs)) : TyOf K H (.ref a) (.ref (He.ga K "Chances")) := isi_ok T (T.xt 3) T.c_Chances e
theorem Ft.first_Family (T : Ft K mg) : PySem.W.selfFirst K (He.ga K "Family") = true := (He.ba (T.xt 5)).1
theorem Ft.first_Ratio (T : Ft K mg) : PySem.W.selfFirst K (He.ga K "Ratio") = true := (He.ba (He.ba (T.xt 5)).2).1
theorem Ft.first_Chances (T : Ft K mg) : PySem.W.selfFirst K (He.ga K "Chances") = true := (He.ba (He.ba (T.xt 5)).2).2
theorem Ft.ne_Family (T : Ft K mg) : PySem.W.findIn K (.ref (He.ga K "Family")) "__ne__" = some (some (.builtin "object.__ne__")) := He.eqO_ok (T.xt 6)
theorem Ft.kit_int (T : Ft K mg) : PySem.W.kitOne K (.type "int") (.ref (He.ga K "Ratio")) = some false := of_decide_eq_true (T.xt 7)
theorem Ft.sub_int (T : Ft K mg) : PySem.W.subIn K (.ref (He.ga K "Ratio")) (.type "int") = some false := of_decide_eq_true (T.xt 8)
theorem Ft.half_at (T : Ft K mg) : PySem.W.findCls K (.ref (He.ga K "Ratio")) (.type "type") "half" = some (.get (.builtin "staticmethod.__get__") (.ref (He.ma K (He.ga K "Ratio") "half")) .none (.ref (He.ga K "Ratio"))) ∧
    ∃ rest, PySem.W.recIn K (He.ma K (He.ga K "Ratio") "half") "staticmethod" = some (.ref (hfA K) :: rest) := He5.wrapB_ok (T.xt 9)
theorem Ft.half_rd (T : Ft K mg) : PySem.W.readsIn K (He.ga K "Ratio") (.type "type") = true ∧ PySem.W.specialIn K (.ref (He.ga K "Ratio")) "__getattribute__" = some (some (.builtin "type.__getattribute__")) := ⟨(He.ba (T.xt 10)).1, He.eqO_ok (He.ba (T.xt 10)).2⟩
theorem Ft.f_half (T : Ft K mg) : ∃ fd, FunD K "half" "Ratio.half" (defArgs s_half) (defBody s_half) (defScope s_half) [] [] (hfA K) fd := by
  obtain ⟨kp, h⟩ := He.ba (T.xt 11)
  have e := T.half
  unfold hfW hfV at e
  cases q : K.lookup (hfA K) with
  | none => rw [q] at e; cases e
  | some o =>
    obtain ⟨oc, od, dt, osl⟩ := o
    rw [q] at e h
    cases dt with
    | func fd =>
      obtain ⟨h1, h2⟩ := He.ba h
      obtain ⟨n1, n2, n3, n4, n5, n6, n7, n8, n9, n10, n11, n12, n13, n14, n15⟩ := fd
      have e2 := e
      simp only [Option.some.injEq, Prod.mk.injEq] at e2
      obtain ⟨rfl, rfl, rfl, rfl, rfl, rfl, rfl, rfl⟩ := e2
      exact ⟨_, ⟨oc, od, _, _, _, _, _, _, _, osl, rfl, q, h1, .inl ⟨rfl, of_decide_eq_true h2⟩, .inl rfl⟩, kp⟩
    | _ => cases e
end
end K72

-- K72Lib
set_option Elab.async false
set_option linter.all false
set_option maxRecDepth 100000
/-! Packed promises: defs, methods, classes; heaps that grow. -/
namespace K72
open PySem PySem.Spec PyProof.Rows L2
section
variable {P : Program} {w : World} {K : PySem.W.Frag} {mg : Str → Option Value} {base : Heap} {k : Nat} {x m qual : Str} {sp : Sp} {f C : Addr}
/-- a def of the module that may be called by its name -/
structure CalR (P : Program) (w : World) (K : PySem.W.Frag) (mg : Str → Option Value) (base : Heap) (k : Nat) (x : Str) (sp : Sp) : Prop where
  ex : ∃ f : Addr, FnR P w K mg base CX0 k f sp ∧ mg x = some (.ref f) ∧ PySem.W.keepIn K (.ref f) = true
/-- a method of the class at C -/
structure MetR (P : Program) (w : World) (K : PySem.W.Frag) (mg : Str → Option Value) (base : Heap) (k : Nat) (C : Addr) (m : Str) (sp : Sp) : Prop where
  ex : ∃ f : Addr, Cls K C ∧ Meth K C m f ∧ FnR P w K mg base CX0 k f sp
/-- a class that is made by its name; sp its __init__ -/
structure MakR (P : Program) (w : World) (K : PySem.W.Frag) (mg : Str → Option Value) (base : Heap) (k : Nat) (x : Str) (C : Addr) (sp : Sp) : Prop where
  ex : ∃ f : Addr, Mk K C f ∧ FnR P w K mg base CX0 k f sp ∧ mg x = some (.ref C)

abbrev BindN (name qual : Str) (st : Stmt) (ps : List Str) : Prop :=
  ∀ (kV doc pm : Value) (an : Option Addr) (cdv ct : Value) (us : List Value), us.length = ps.length → bindArgs (PySem.W.fnOf name qual (defArgs st) (defBody st) (defScope st) .none kV doc pm an cdv ct) ⟨us, []⟩ = pure (ps.zip us)
abbrev Body (P : Program) (w : World) (K : PySem.W.Frag) (mg : Str → Option Value) (base : Heap) (qual : Str) (st : Stmt) (f : Addr) (N : List Str) (k : Nat) (sp : Sp) : Prop :=
  ∀ (cdv : Value) (A : Around) (outer : List Env) (s : Shared) (H : Hp) (vs : List V) (Q : VK) (E : XK), Room k (A.deeper (envOfC qual (defScope st) s.heap.objs.size f cdv)) → sp vs H Q E →
      ∃ t, PSs (cxOf CX0 P w K mg base N qual (defScope st) f cdv A outer s H E).nox (defBody st) t ∧ t { nx := fun _ H' => Q .non H', rt := Q } (start N vs) H
theorem fnr_of {st : Stmt} {N ps : List Str} (F : ∃ fd, FunD K x qual (defArgs st) (defBody st) (defScope st) [] [] f fd) (S : FnScope N ps (defScope st)) (hb : BindN x qual st ps) (len : ∀ vs H Q E, sp vs H Q E → vs.length = ps.length)
    (body : Body P w K mg base qual st f N k sp) : FnR P w K mg base CX0 (k + 1) f sp := by
  obtain ⟨fd, F⟩ := F
  have G : FnOk P w K mg base CX0 (k + 1) f fd ps sp := F.ok S len fun cdv A outer s H vs Q E hr h => by
    obtain ⟨t, h1, h2⟩ := body cdv A outer s H vs Q E hr h
    exact ⟨t, h1.nox, h2⟩
  exact (G.raw (F.bindsN hb) .nil).imp fun vs H Q E h => by rw [List.append_nil]; exact h
theorem cal_of {st : Stmt} {N ps : List Str} (hm : mg x = some (.ref f)) (F : ∃ fd, FunD K x x (defArgs st) (defBody st) (defScope st) [] [] f fd) (S : FnScope N ps (defScope st)) (hb : BindN x x st ps) (len : ∀ vs H Q E, sp vs H Q E → vs.length = ps.length)
    (body : Body P w K mg base x st f N k sp) : CalR P w K mg base (k + 1) x sp :=
  ⟨f, fnr_of F S hb len body, hm, let ⟨_, F⟩ := F; F.kp⟩
theorem met_of {st : Stmt} {N ps : List Str} (c : Cls K C) (hm : Meth K C m f) (F : ∃ fd, FunD K m qual (defArgs st) (defBody st) (defScope st) [] [] f fd) (S : FnScope N ps (defScope st)) (hb : BindN m qual st ps) (len : ∀ vs H Q E, sp vs H Q E → vs.length = ps.length)
    (body : Body P w K mg base qual st f N k sp) : MetR P w K mg base (k + 1) C m sp :=
  ⟨f, c, hm, fnr_of F S hb len body⟩
theorem CalR.mono {j : Nat} (c : CalR P w K mg base j x sp) (h : j ≤ k) : CalR P w K mg base k x sp := let ⟨f, F, r⟩ := c.ex; ⟨f, F.mono h, r⟩
theorem MetR.mono {j : Nat} (c : MetR P w K mg base j C m sp) (h : j ≤ k) : MetR P w K mg base k C m sp := let ⟨f, a, b, F⟩ := c.ex; ⟨f, a, b, F.mono h⟩
theorem MakR.mono {j : Nat} (c : MakR P w K mg base j x C sp) (h : j ≤ k) : MakR P w K mg base k x C sp := let ⟨f, a, F, b⟩ := c.ex; ⟨f, a, F.mono h, b⟩
theorem CalR.imp {sp' : Sp} (c : CalR P w K mg base k x sp) (h : ∀ vs H Q E, sp' vs H Q E → sp vs H Q E) : CalR P w K mg base k x sp' := let ⟨f, F, r⟩ := c.ex; ⟨f, F.imp h, r⟩
theorem MetR.imp {sp' : Sp} (c : MetR P w K mg base k C m sp) (h : ∀ vs H Q E, sp' vs H Q E → sp vs H Q E) : MetR P w K mg base k C m sp' := let ⟨f, a, b, F⟩ := c.ex; ⟨f, a, b, F.imp h⟩
end

section
variable {X : Cx} {k j : Nat} {C : Addr} {x m : Str} {sp : Sp} {p pos apos : Pos} {e o : Expr} {es : List Expr} {ta : TE} {t : TA}
def tCR (sp : Sp) (t : TA) : TE := fun σ H Q => t σ H fun vs H1 => sp vs H1 Q E0
def tMR (C : Addr) (m : Str) (sp : Sp) (ta : TE) (t : TA) : TE := fun σ H Q => ta σ H fun x H1 => ∃ a dx fs, x = .ref a ∧ H1 a = some (.ins C dx fs) ∧ fs.lookup m = none ∧ t σ H1 fun vs H2 => sp (x :: vs) H2 Q E0
def tKR (C : Addr) (sp : Sp) (t : TA) : TE := fun σ H Q => t σ H fun vs H1 => ∀ x dx, H1 x = none → H1 dx = none → dx ≠ x → sp (V.ref x :: vs) (upd (upd H1 dx (.own x)) x (.ins C dx [])) (fun v H2 => v = .non ∧ Q (.ref x) H2) E0
/-- f(e, ..) -/
theorem pe_cr (c : CalR X.prog X.w X.K X.mg X.base k x sp) (hr : Room j X.A) (hk : k ≤ j) (hg : Gl X x) (ha : PA X (e :: es) t)
    (hd : (x == ("__debug__" : Str)) = false := by decide) (he : starEach (e :: es) X.env = (false, eval e X.env) :: starEach es X.env := by rfl) (hpl : (backTo pos (starEach es X.env)).any (·.1) = false := by rfl) :
    PE X (.Call (.Name x p) (e :: es) [] pos) (tCR sp t) := by
  obtain ⟨f, F, hm, hkp⟩ := c.ex
  refine ⟨fun pins s σ H Q I h => wpAny_Call_Name_kw (ld_glob I hg hm ?_ hd)⟩
  refine PySem.W.callWith_K (h₀ := X.base) I.ok.mod.kin hkp (thn (ha.run pos pins s σ H _ I h) fun us s1 ⟨vs, H1, I1, r, q⟩ => ⟨I1.kIn, ?_⟩) he hpl
  exact wpAny_call (run_fnR F (hr.mono hk) pass0 I1 r q)
/-- o.m(e, ..) -/
theorem pe_mr {pl : Sem Bool} (c : MetR X.prog X.w X.K X.mg X.base k C m sp) (hr : Room j X.A) (hk : k ≤ j) (he : PE X o ta) (ha : PA X (e :: es) t)
    (hst : starEach (e :: es) X.env = (false, eval e X.env) :: starEach es X.env := by rfl) (hpl : (backTo pos (starEach es X.env)).any (·.1) = false := by rfl)
    (ht : eval (.Call (.Attribute o m apos) (e :: es) [] pos) X.env = (do
      let ov ← eval o X.env
      standAt apos.atName
      let (f, first) ← holding [ov] (getMethod ov m pl)
      callWith pos f first (backTo pos (starEach (e :: es) X.env)) (backToKw pos (keywordEach [] X.env))) := by rfl) :
    PE X (.Call (.Attribute o m apos) (e :: es) [] pos) (tMR C m sp ta t) := by
  obtain ⟨f, hc, hm, F⟩ := c.ex
  exact pe_methR (pl := pl) he hc hm F (hr.mono hk) pass0 ha hst hpl ht
/-- o.m() -/
theorem pe_mr0 {pl : Sem Bool} (c : MetR X.prog X.w X.K X.mg X.base k C m sp) (hr : Room j X.A) (hk : k ≤ j) (he : PE X o ta)
    (ht : eval (.Call (.Attribute o m apos) [] [] pos) X.env = (do
      let ov ← eval o X.env
      standAt apos.atName
      let (f, first) ← holding [ov] (getMethod ov m pl)
      callWith pos f first (backTo pos (starEach [] X.env)) (backToKw pos (keywordEach [] X.env))) := by rfl) :
    PE X (.Call (.Attribute o m apos) [] [] pos) (tMR C m sp ta tNil) := by
  obtain ⟨f, hc, hm, F⟩ := c.ex
  refine ⟨fun pins s σ H Q I h => PySem.W.methodCall_KW (pl := pl) (thn (he.run pins s σ H _ I h) fun u s1 ⟨x, H1, I1, rx, a, dx, fs, ex, ea, l, q⟩ => ?_) ht⟩
  subst ex
  cases rx
  refine getmeth_ok I1 ea hc hm l ?_
  exact PySem.W.callWith_K0 (first := [.ref a]) I1.kIn hm.kp (wpAny_call (run_fnR (us := [.ref a]) (vs := [.ref a]) F (hr.mono hk) pass0 I1 (.cons rfl .nil) q))
/-- C(e, ..) -/
theorem pe_kr (c : MakR X.prog X.w X.K X.mg X.base k x C sp) (hr : Room j X.A) (hk : k + 1 ≤ j) (hg : Gl X x) (ha : PA X (e :: es) t) (hd : (x == ("__debug__" : Str)) = false := by decide)
    (he : starEach (e :: es) X.env = (false, eval e X.env) :: starEach es X.env := by rfl) (hpl : (backTo pos (starEach es X.env)).any (·.1) = false := by rfl) : PE X (.Call (.Name x p) (e :: es) [] pos) (tKR C sp t) := by
  obtain ⟨f, M, F, hm⟩ := c.ex
  exact StX.pe_makeR M F (hr.mono hk) hg hm pass0 ha hd he hpl
/-- C(e, .., *y) -/
theorem pe_krS (c : MakR X.prog X.w X.K X.mg X.base k x C sp) (hr : Room j X.A) (hk : k + 1 ≤ j) (hg : Gl X x) (ha : PA X (e :: es) t) (hd : (x == ("__debug__" : Str)) = false := by decide)
    (he : starEach (e :: es) X.env = (false, eval e X.env) :: starEach es X.env := by rfl) (hst : (backTo pos (starEach es X.env)).any (·.1) = true := by rfl) : PE X (.Call (.Name x p) (e :: es) [] pos) (tKR C sp t) := by
  obtain ⟨f, M, F, hm⟩ := c.ex
  refine ⟨fun pins s σ H Q I h => wpAny_Call_Name_kw (ld_glob I hg hm ?_ hd)⟩
  refine PySem.W.callWith_S2 (h₀ := X.base) I.ok.mod.kin M.kp (thn (ha.run pos pins s σ H _ I h) fun us s1 ⟨vs, H1, I1, r, q⟩ => ⟨I1.kIn, ?_⟩) he hst
  exact StX.run_makeR M F (hr.mono hk) pass0 I1 r q
end

/-! ### rules that name the written part, told by K (for comprehensions' blocks) -/
section
variable {X : Cx} {p pos : Pos} {x : Str}
theorem pe_gc {v : V} (hg : Gl X x) (h : ∃ u, X.mg x = some u ∧ RelV v u) (hd : (x == ("__debug__" : Str)) = false := by decide) : PE X (.Name x pos) (tC v) := let ⟨_, hm, r⟩ := h; pe_glob hg hm r hd
theorem op_inK (K : PySem.W.Frag) (h : X.K = K := by rfl) : OpR X (compareOp .In) (rIn K false) := by subst h; exact op_in_seq
theorem op_notInK (K : PySem.W.Frag) (h : X.K = K := by rfl) : OpR X (compareOp .NotIn) (rIn K true) := by subst h; exact op_notIn_seq
theorem ix_lstK (K : PySem.W.Frag) (h : X.K = K := by rfl) : IxR X (rIxL K) := by subst h; exact ix_list
theorem ix_tupK (K : PySem.W.Frag) (h : X.K = K := by rfl) : IxR X (rIxT K) := by subst h; exact ix_tup
theorem call_isiK' (K : PySem.W.Frag) (h : X.K = K := by rfl) : CallR X (.builtin "isinstance") (rIsi K) := by subst h; exact call_isi
theorem cr_sumK (K : PySem.W.Frag) (hc : X.calm = true) (h : X.K = K := by rfl) : CallR X (.builtin "sum") (rSum K) := by subst h; exact cr_sum hc
theorem cr_anyK (K : PySem.W.Frag) (hc : X.calm = true) (h : X.K = K := by rfl) : CallR X (.builtin "any") (rAny K) := by subst h; exact cr_any hc
theorem cr_allK (K : PySem.W.Frag) (hc : X.calm = true) (h : X.K = K := by rfl) : CallR X (.builtin "all") (rAll K) := by subst h; exact cr_all hc
theorem cr_maxK (K : PySem.W.Frag) (hc : X.calm = true) (h : X.K = K := by rfl) : CallR X (.builtin "max") (rMax K) := by subst h; exact cr_max hc
def rLenQ (K : PySem.W.Frag) : List V → Hp → VK → Prop := fun xs H Q => ∃ p ys, xs = [.ref p] ∧ (SqL K H p ys ∨ SqT K H p ys) ∧ Q (.int ys.length) H
theorem call_lenK (K : PySem.W.Frag) (h : X.K = K := by rfl) : CallR X (.builtin "len") (rLenQ K) := by subst h; exact call_len_seq
theorem op_catK (K : PySem.W.Frag) (h : X.K = K := by rfl) : OpR X (binaryOp .Add) (rCatA K) := by subst h; exact op_catA
theorem pe_fldK (K : PySem.W.Frag) {e : Expr} {f : Str} {ta : TE} (he : PE X e ta) (h : X.K = K := by rfl) (hb : attributeBase e f X.env (eval e X.env) = eval e X.env := by rfl) : PE X (.Attribute e f pos) (tFld K ta f) := by subst h; exact pe_fld he hb
theorem pi_lstK (K : PySem.W.Frag) {tg l : Expr} {tl : TE} (hl : PE X l tl) (h : X.K = K := by rfl) : PI X tg l (iList K tl) := by subst h; exact pi_list hl
theorem pi_tupK (K : PySem.W.Frag) {tg l : Expr} {tl : TE} (hl : PE X l tl) (h : X.K = K := by rfl) : PI X tg l (iTup K tl) := by subst h; exact pi_tup hl
theorem op_eqK (K : PySem.W.Frag) (hu : X.A.units + 64 < cLine) (h : X.K = K := by rfl) : OpR X (compareOp .Eq) (rEqD K) := by subst h; exact op_eqD hu
theorem op_neK (K : PySem.W.Frag) (hu : X.A.units + 64 < cLine) (h : X.K = K := by rfl) : OpR X (compareOp .NotEq) (rNeD K) := by subst h; exact op_neD hu
end

/-! ### heaps that grow -/
theorem _root_.L2.Same.new {H : Hp} {p : Addr} {o : HO} (h : H p = none) : Same H (upd H p o) := fun a u e => by rw [upd_ne (ne_of_none e h)]; exact e
theorem _root_.L2.Same.mut {H H' : Hp} {p : Addr} {o : HO} (e : Same H H') (h : H p = none) : Same H (upd H' p o) := fun a u ha => by rw [upd_ne (ne_of_none ha h)]; exact e a u ha
theorem _root_.L2.Same.tup {K : PySem.W.Frag} {H H' : Hp} {a : Addr} {xs : List V} (e : Same H H') (h : SqT K H a xs) : SqT K H' a xs := by
  rcases h with (h | ⟨o, h⟩) | h
  · exact .inl (.inl (e _ _ h))
  · exact .inl (.inr ⟨o, e _ _ h⟩)
  · exact .inr h
theorem _root_.L2.Same.free2 {H H' : Hp} (e : Same H H') {l : Addr} (h : H' l = none) : H l = none := e.free h
theorem iteFd {p A B : Prop} [Decidable p] (h : ¬ p) (b : B) : if decide p = true then A else B := by rw [decide_eq_false h]; exact iteF b
theorem iteTd {p A B : Prop} [Decidable p] (h : p) (b : A) : if decide p = true then A else B := by rw [decide_eq_true h]; exact iteT b
theorem iteFb {b : Bool} {A B : Prop} (h : b = false) (q : B) : if b = true then A else B := by rw [h]; exact iteF q
theorem iteTb {b : Bool} {A B : Prop} (h : b = true) (q : A) : if b = true then A else B := by rw [h]; exact iteT q
theorem line_of {n : Nat} (h : n ≤ 100000) : n ≤ sizeLine := Nat.le_trans h (by decide)
theorem line_lt {n : Nat} (h : n < 100000) : n < sizeLine := Nat.lt_of_lt_of_le h (by decide)
end K72

-- K72Lc
set_option Elab.async false
set_option linter.all false
set_option maxRecDepth 100000
/-! Loops and comprehensions over what stands still: told by the abstract items. -/
namespace K72
open PySem PySem.Spec PyProof.Rows L2
/-- in every heap behind H the walk J gives just the values xs -/
structure Walk0 (J : It) (H : Hp) (xs : List V) : Prop where
  go : ∀ (i : Nat) x H', Same H H' → xs[i]? = some x → J.go i H'
  yld : ∀ (i : Nat) x y H' H2, Same H H' → xs[i]? = some x → J.yld i H' y H2 → H2 = H' ∧ y = x
  stop : ∀ H', Same H H' → J.stop xs.length H'
theorem Walk0.same {J : It} {H H' : Hp} {xs : List V} (w : Walk0 J H xs) (e : Same H H') : Walk0 J H' xs :=
  ⟨fun i x H2 e2 => w.go i x H2 (e.trans e2), fun i x y H2 H3 e2 => w.yld i x y H2 H3 (e.trans e2), fun H2 e2 => w.stop H2 (e.trans e2)⟩
theorem walk_lst {K : PySem.W.Frag} {H : Hp} {a : Addr} {xs : List V} (h : SqL K H a xs) : Walk0 (Itl K a) H xs where
  go := fun i x H' e hx => ⟨xs, x, e.seq h, hx⟩
  yld := fun i x y H' H2 e hx q => ⟨q.1, Option.some.inj ((q.2 xs (e.seq h)).symm.trans hx)⟩
  stop := fun H' e => ⟨xs, e.seq h, Nat.le_refl _⟩
theorem walk_tup {K : PySem.W.Frag} {H : Hp} {a : Addr} {xs : List V} (h : SqT K H a xs) : Walk0 (Itt K a) H xs where
  go := fun i x H' e hx => ⟨xs, x, Same.tup e h, hx⟩
  yld := fun i x y H' H2 e hx q => ⟨q.1, Option.some.inj ((q.2 xs (Same.tup e h)).symm.trans hx)⟩
  stop := fun H' e => ⟨xs, Same.tup e h, Nat.le_refl _⟩
theorem walk_rng {H : Hp} {lo : Int} {n : Nat} : Walk0 (Itr lo n) H ((List.range n).map fun (i : Nat) => V.int (lo + (i : Int))) where
  go := fun i x H' e hx => by
    have := (List.getElem?_eq_some_iff.mp hx).1
    simp at this
    exact this
  yld := fun i x y H' H2 e hx q => by
    obtain ⟨h, e2⟩ := List.getElem?_eq_some_iff.mp hx
    simp at e2
    exact ⟨q.1, by rw [q.2, ← e2]⟩
  stop := fun H' e => by show n ≤ _; simp
theorem filter_take_succ {α : Type} {f : α → Bool} {zs : List α} {i : Nat} {z : α} (h : zs[i]? = some z) : (zs.take (i + 1)).filter f = (zs.take i).filter f ++ if f z then [z] else [] := by
  rw [List.take_add_one, h, List.filter_append]
  show _ ++ List.filter f [z] = _
  by_cases q : f z = true <;> simp [List.filter_cons, q]
theorem Pd.len {α β : Type} {F : α → β → Prop} : ∀ {l : List α} {r : List β}, Paired F l r → l.length = r.length
  | _, _, .nil => rfl
  | _, _, .cons _ t => congrArg Nat.succ (Pd.len t)
theorem Pd.snoc {α β : Type} {F : α → β → Prop} {a : α} {b : β} : ∀ {l : List α} {r : List β}, Paired F l r → F a b → Paired F (l ++ [a]) (r ++ [b])
  | _, _, .nil, h => .cons h .nil
  | _, _, .cons x t, h => .cons x (Pd.snoc t h)
theorem Pd.imp {α β : Type} {F G : α → β → Prop} (i : ∀ a b, F a b → G a b) : ∀ {l : List α} {r : List β}, Paired F l r → Paired G l r
  | _, _, .nil => .nil
  | _, _, .cons a t => .cons (i _ _ a) (Pd.imp i t)
theorem Pd.at {α β : Type} {F : α → β → Prop} : ∀ {l : List α} {r : List β} {i : Nat} {b : β}, Paired F l r → r[i]? = some b → ∃ a, l[i]? = some a ∧ F a b
  | _, _, _, _, .nil, h => by simp at h
  | _, _, 0, _, .cons f _, h => by simp at h; subst h; exact ⟨_, rfl, f⟩
  | _, _, i + 1, _, .cons _ t, h => by simp at h; obtain ⟨b, h1, h2⟩ := Pd.at t h; exact ⟨b, by simpa using h1, h2⟩
/-- all but lists are as they were -/
def SameX (H H' : Hp) : Prop := ∀ a o, H a = some o → (∀ xs, o ≠ .lst xs) → H' a = some o
theorem _root_.L2.Same.x {H H' : Hp} (e : Same H H') : SameX H H' := fun a o h _ => e a o h
theorem SameX.trans {H H1 H2 : Hp} (a : SameX H H1) (b : SameX H1 H2) : SameX H H2 := fun c o h n => b c o (a c o h n) n
theorem SameX.lst {H : Hp} {D : Addr} {xs ys : List V} (h : H D = some (.lst xs)) : SameX H (upd H D (.lst ys)) := fun a o e n => by
  by_cases q : a = D
  · subst q; rw [h] at e; cases e; exact absurd rfl (n xs)
  · rw [upd_ne q]; exact e
theorem SameX.tup {K : PySem.W.Frag} {H H' : Hp} {a : Addr} {xs : List V} (e : SameX H H') (h : SqT K H a xs) : SqT K H' a xs := by
  rcases h with (h | ⟨o, h⟩) | h
  · exact .inl (.inl (e _ _ h (fun _ q => by cases q)))
  · exact .inl (.inr ⟨o, e _ _ h (fun _ q => by cases q)⟩)
  · exact .inr h
/-- a property of values that leans on no list -/
def Stay (R : V → Hp → Prop) : Prop := ∀ v H H', SameX H H' → R v H → R v H'
/-- what a comprehension's block asks, where its walk gives xs, told by the items zs (I: how an item stands in H); f: the kept ones; R: what the element gives for an item -/
theorem lc_pure {α : Type} {J : It} {H : Hp} {xs : List V} {zs : List α} {I : α → V → Prop} {j : Nat} {tt : TT} {te : TE} {vs : List Nat} {σ : L2.St} {D : Addr} {Qd : Hp → Prop} (f : α → Bool) (R : α → V → Hp → Prop) (hR : ∀ z, Stay (R z)) (W : Walk0 J H xs) (hI : Paired I zs xs)
    (hn : xs.length < 100000) (hw : ∀ x : V, wipe ((wipe σ vs).set j (some x)) vs = wipe σ vs)
    (ht : ∀ z x H1, Same H H1 → z ∈ zs → I z x → ∀ Q : Bool → Hp → Prop, (∀ H2, Same H1 H2 → Q (f z) H2) → tt ((wipe σ vs).set j (some x)) H1 Q)
    (he : ∀ z x H1, Same H H1 → z ∈ zs → I z x → f z = true → ∀ Q : VK, (∀ y H2, Same H1 H2 → R z y H2 → Q y H2) → te ((wipe σ vs).set j (some x)) H1 Q)
    (hD : H D = none) (done : ∀ H' ys, Same H H' → H' D = some (.lst ys) → Paired (fun z y => R z y H') (zs.filter f) ys → Qd H') :
    ∃ W : Nat → Nat → Hp → Prop, (∃ m, W 0 m (upd H D (.lst []))) ∧ ∀ i m H, W i m H →
      (J.stop i H ∧ Qd H) ∨ (J.go i H ∧ ∃ Nx : Hp → Prop, (∀ H', Nx H' → ∃ m', m' < m ∧ W (i + 1) m' H') ∧ ∀ x H', J.yld i H x H' → gName j x (wipe σ vs) H' fun σ2 H2 => wipe σ2 vs = wipe σ vs ∧ tt σ2 H2 fun b H3 =>
        if b = true then te σ2 H3 fun y H4 => ∃ acc, H4 D = some (.lst acc) ∧ acc.length < sizeLine ∧ Nx (upd H4 D (.lst (acc ++ [y]))) else Nx H3) := by
  have hl : zs.length = xs.length := Pd.len hI
  refine ⟨fun i m H' => m = xs.length - i ∧ i ≤ xs.length ∧ Same H H' ∧ ∃ ys, H' D = some (.lst ys) ∧ ys.length ≤ i ∧ Paired (fun z y => R z y H') ((zs.take i).filter f) ys,
    ⟨xs.length, by simp, Nat.zero_le _, Same.new hD, [], upd_same, Nat.le_refl _, by simp; exact .nil⟩, ?_⟩
  rintro i m H1 ⟨rfl, hi, e1, ys, hys, hyl, hp⟩
  by_cases hlt : i < xs.length
  · obtain ⟨x, hx⟩ : ∃ x, xs[i]? = some x := ⟨xs[i], List.getElem?_eq_getElem hlt⟩
    obtain ⟨z, hz, hIz⟩ := Pd.at hI hx
    have hzm : z ∈ zs := List.mem_of_getElem? hz
    refine .inr ⟨W.go i x H1 e1 hx, fun H' => i + 1 ≤ xs.length ∧ Same H H' ∧ ∃ ys, H' D = some (.lst ys) ∧ ys.length ≤ i + 1 ∧ Paired (fun z y => R z y H') ((zs.take (i + 1)).filter f) ys,
      fun H' h => ⟨xs.length - (i + 1), by omega, rfl, h⟩, fun y H2 hy => ?_⟩
    obtain ⟨rfl, rfl⟩ := W.yld i x y H1 H2 e1 hx hy
    refine ⟨hw _, ht z y H2 e1 hzm hIz _ fun H3 e3 => ?_⟩
    have hp3 : Paired (fun z y => R z y H3) ((zs.take i).filter f) ys := Pd.imp (fun a b r => hR a b _ _ e3.x r) hp
    cases hf : f z with
    | true =>
      refine iteT (he z y H3 (e1.trans e3) hzm hIz hf _ fun v H4 e4 r4 => ?_)
      refine ⟨ys, e4 _ _ (e3 _ _ hys), line_lt (by omega), hlt, Same.mut ((e1.trans e3).trans e4) hD, ys ++ [v], upd_same, by simp; omega, ?_⟩
      rw [filter_take_succ hz, hf]
      have e5 : SameX H4 (upd H4 D (.lst (ys ++ [v]))) := SameX.lst (e4 _ _ (e3 _ _ hys))
      exact Pd.snoc (Pd.imp (fun a b r => hR a b _ _ (e4.x.trans e5) r) hp3) (hR z v _ _ e5 r4)
    | false =>
      refine iteF ⟨hlt, e1.trans e3, ys, e3 _ _ hys, by omega, ?_⟩
      rw [filter_take_succ hz, hf]
      simpa using hp3
  · have e : i = xs.length := by omega
    subst e
    refine .inl ⟨W.stop H1 e1, done H1 ys e1 hys ?_⟩
    rw [← hl, List.take_length] at hp
    exact hp
theorem pd_eq {α : Type} {v : α → V} : ∀ {zs : List α} {ys : List V}, Paired (fun z y => y = v z) zs ys → ys = zs.map v
  | _, _, .nil => rfl
  | _, _, .cons a t => by rw [a, pd_eq t]; rfl
theorem pd_map {α : Type} {v : α → V} : ∀ (zs : List α), Paired (fun z y => y = v z) zs (zs.map v)
  | [] => .nil
  | _ :: t => .cons rfl (pd_map t)
theorem pd_mem {α β : Type} {F : α → β → Prop} : ∀ {l : List α} {r : List β}, Paired F l r → Paired (fun a b => F a b ∧ a ∈ l) l r
  | _, _, .nil => .nil
  | _, _, .cons f t => .cons ⟨f, List.mem_cons_self⟩ (Pd.imp (fun _ _ h => ⟨h.1, List.mem_cons_of_mem _ h.2⟩) (pd_mem t))
theorem pd_swap {α β : Type} {F : α → β → Prop} : ∀ {l : List α} {r : List β}, Paired F l r → Paired (fun b a => F a b) r l
  | _, _, .nil => .nil
  | _, _, .cons a t => .cons a (pd_swap t)
theorem pd_mapL {α β γ : Type} {F : γ → β → Prop} {g : α → γ} : ∀ {l : List α} {r : List β}, Paired (fun a b => F (g a) b) l r → Paired F (l.map g) r
  | _, _, .nil => .nil
  | _, _, .cons a t => .cons a (pd_mapL t)
theorem pd_refs {α : Type} {F : α → Addr → Prop} : ∀ {zs : List α} {ys : List V}, Paired (fun z y => ∃ a : Addr, y = .ref a ∧ F z a) zs ys → ∃ as : List Addr, ys = as.map V.ref ∧ Paired F zs as
  | _, _, .nil => ⟨[], rfl, .nil⟩
  | _, _, .cons ⟨a, e, f⟩ t => by
    obtain ⟨as, e2, p⟩ := pd_refs t
    exact ⟨a :: as, by rw [e, e2]; rfl, .cons f p⟩
/-- the same where the element's value is known: v z -/
theorem lc_val {α : Type} {J : It} {H : Hp} {xs : List V} {zs : List α} {I : α → V → Prop} {j : Nat} {tt : TT} {te : TE} {vs : List Nat} {σ : L2.St} {D : Addr} {Qd : Hp → Prop} (f : α → Bool) (v : α → V) (W : Walk0 J H xs) (hI : Paired I zs xs)
    (hn : xs.length < 100000) (hw : ∀ x : V, wipe ((wipe σ vs).set j (some x)) vs = wipe σ vs)
    (ht : ∀ z x H1, Same H H1 → z ∈ zs → I z x → ∀ Q : Bool → Hp → Prop, (∀ H2, Same H1 H2 → Q (f z) H2) → tt ((wipe σ vs).set j (some x)) H1 Q)
    (he : ∀ z x H1, Same H H1 → z ∈ zs → I z x → f z = true → ∀ Q : VK, (∀ H2, Same H1 H2 → Q (v z) H2) → te ((wipe σ vs).set j (some x)) H1 Q)
    (hD : H D = none) (done : ∀ H', Same H H' → H' D = some (.lst ((zs.filter f).map v)) → Qd H') :
    ∃ W : Nat → Nat → Hp → Prop, (∃ m, W 0 m (upd H D (.lst []))) ∧ ∀ i m H, W i m H →
      (J.stop i H ∧ Qd H) ∨ (J.go i H ∧ ∃ Nx : Hp → Prop, (∀ H', Nx H' → ∃ m', m' < m ∧ W (i + 1) m' H') ∧ ∀ x H', J.yld i H x H' → gName j x (wipe σ vs) H' fun σ2 H2 => wipe σ2 vs = wipe σ vs ∧ tt σ2 H2 fun b H3 =>
        if b = true then te σ2 H3 fun y H4 => ∃ acc, H4 D = some (.lst acc) ∧ acc.length < sizeLine ∧ Nx (upd H4 D (.lst (acc ++ [y]))) else Nx H3) :=
  lc_pure f (fun z y _ => y = v z) (fun _ _ _ _ _ h => h) W hI hn hw ht (fun z x H1 e m i hf Q q => he z x H1 e m i hf Q fun H2 e2 => q _ H2 e2 rfl) hD fun H' ys e hys p => done H' e (by rw [← pd_eq p]; exact hys)
/-- .. over range(n) -/
theorem lc_rngV {n : Nat} {H : Hp} {j : Nat} {tt : TT} {te : TE} {vs : List Nat} {σ : L2.St} {D : Addr} {Qd : Hp → Prop} (f : Nat → Bool) (v : Nat → V) (hn : n < 100000) (hw : ∀ x : V, wipe ((wipe σ vs).set j (some x)) vs = wipe σ vs)
    (ht : ∀ z H1, Same H H1 → z < n → ∀ Q : Bool → Hp → Prop, (∀ H2, Same H1 H2 → Q (f z) H2) → tt ((wipe σ vs).set j (some (.int (z : Int)))) H1 Q)
    (he : ∀ z H1, Same H H1 → z < n → f z = true → ∀ Q : VK, (∀ H2, Same H1 H2 → Q (v z) H2) → te ((wipe σ vs).set j (some (.int (z : Int)))) H1 Q)
    (hD : H D = none) (done : ∀ H', Same H H' → H' D = some (.lst (((List.range n).filter f).map v)) → Qd H') :
    ∃ W : Nat → Nat → Hp → Prop, (∃ m, W 0 m (upd H D (.lst []))) ∧ ∀ i m H, W i m H →
      ((Itr 0 (n : Int).toNat).stop i H ∧ Qd H) ∨ ((Itr 0 (n : Int).toNat).go i H ∧ ∃ Nx : Hp → Prop, (∀ H', Nx H' → ∃ m', m' < m ∧ W (i + 1) m' H') ∧ ∀ x H', (Itr 0 (n : Int).toNat).yld i H x H' → gName j x (wipe σ vs) H' fun σ2 H2 => wipe σ2 vs = wipe σ vs ∧ tt σ2 H2 fun b H3 =>
        if b = true then te σ2 H3 fun y H4 => ∃ acc, H4 D = some (.lst acc) ∧ acc.length < sizeLine ∧ Nx (upd H4 D (.lst (acc ++ [y]))) else Nx H3) :=
  lc_val (xs := (List.range n).map fun (i : Nat) => V.int (0 + (i : Int))) (zs := List.range n) (I := fun (c : Nat) x => x = V.int (0 + (c : Int))) f v walk_rng (pd_map _) (by simpa using hn) hw
    (fun z x H1 e m i => by rw [i, Int.zero_add]; exact ht z H1 e (List.mem_range.mp m)) (fun z x H1 e m i hf => by rw [i, Int.zero_add]; exact he z H1 e (List.mem_range.mp m) hf) hD done
theorem tYes_all {H : Hp} {σ : L2.St} {Q : Bool → Hp → Prop} (q : ∀ H2, Same H H2 → Q true H2) : tYes σ H Q := q H (Same.refl H)
/-- a for over what stands still -/
theorem for_walk {J : It} {H1 : Hp} {xs : List V} {g : TG} {tb : TS} {D : Ends} {σ : L2.St} (W : Walk0 J H1 xs) (Pv : Nat → L2.St → Hp → Prop) (h0 : Pv 0 σ H1) (sm : ∀ i σ H, Pv i σ H → Same H1 H)
    (hs : ∀ i x σ H, xs[i]? = some x → Pv i σ H → g x σ H fun σ2 H2 => tb { D with nx := Pv (i + 1), ct := Pv (i + 1), bk := D.nx } σ2 H2) (hd : ∀ σ H, Pv xs.length σ H → D.nx σ H) :
    ∃ W : Nat → Nat → L2.St → Hp → Prop, (∃ m, W 0 m σ H1) ∧ ∀ i m σ H, W i m σ H →
      (J.stop i H ∧ D.nx σ H) ∨ (J.go i H ∧ ∃ N : L2.St → Hp → Prop, (∀ σ' H', N σ' H' → ∃ m', m' < m ∧ W (i + 1) m' σ' H') ∧ ∀ x H', J.yld i H x H' → g x σ H' fun σ2 H2 => tb { D with nx := N, ct := N, bk := D.nx } σ2 H2) := by
  refine ⟨fun i m σ H => m = xs.length - i ∧ i ≤ xs.length ∧ Pv i σ H, ⟨xs.length, by simp, Nat.zero_le _, h0⟩, ?_⟩
  rintro i m σ H ⟨rfl, hi, p⟩
  by_cases hlt : i < xs.length
  · have hx : xs[i]? = some xs[i] := List.getElem?_eq_getElem hlt
    refine .inr ⟨W.go i _ H (sm _ _ _ p) hx, Pv (i + 1), fun σ' H' p' => ⟨xs.length - (i + 1), by omega, rfl, hlt, p'⟩, fun x H' y => ?_⟩
    obtain ⟨rfl, rfl⟩ := W.yld i _ _ _ _ (sm _ _ _ p) hx y
    exact hs i _ σ _ hx p
  · have e : i = xs.length := by omega
    subst e
    exact .inl ⟨W.stop H (sm _ _ _ p), hd σ H p⟩
/-- .. where the walked thing is told at each turn -/
theorem for_walk2 {J : It} {H1 : Hp} {xs : List V} {g : TG} {tb : TS} {D : Ends} {σ : L2.St} (Pv : Nat → L2.St → Hp → Prop) (h0 : Pv 0 σ H1) (sm : ∀ i σ H, Pv i σ H → Walk0 J H xs)
    (hs : ∀ i x σ H, xs[i]? = some x → Pv i σ H → g x σ H fun σ2 H2 => tb { D with nx := Pv (i + 1), ct := Pv (i + 1), bk := D.nx } σ2 H2) (hd : ∀ σ H, Pv xs.length σ H → D.nx σ H) :
    ∃ W : Nat → Nat → L2.St → Hp → Prop, (∃ m, W 0 m σ H1) ∧ ∀ i m σ H, W i m σ H →
      (J.stop i H ∧ D.nx σ H) ∨ (J.go i H ∧ ∃ N : L2.St → Hp → Prop, (∀ σ' H', N σ' H' → ∃ m', m' < m ∧ W (i + 1) m' σ' H') ∧ ∀ x H', J.yld i H x H' → g x σ H' fun σ2 H2 => tb { D with nx := N, ct := N, bk := D.nx } σ2 H2) := by
  refine ⟨fun i m σ H => m = xs.length - i ∧ i ≤ xs.length ∧ Pv i σ H, ⟨xs.length, by simp, Nat.zero_le _, h0⟩, ?_⟩
  rintro i m σ H ⟨rfl, hi, p⟩
  by_cases hlt : i < xs.length
  · have hx : xs[i]? = some xs[i] := List.getElem?_eq_getElem hlt
    refine .inr ⟨(sm _ _ _ p).go i _ H (Same.refl _) hx, Pv (i + 1), fun σ' H' p' => ⟨xs.length - (i + 1), by omega, rfl, hlt, p'⟩, fun x H' y => ?_⟩
    obtain ⟨rfl, rfl⟩ := (sm _ _ _ p).yld i _ _ _ _ (Same.refl _) hx y
    exact hs i _ σ _ hx p
  · have e : i = xs.length := by omega
    subst e
    exact .inl ⟨(sm _ _ _ p).stop H (Same.refl _), hd σ H p⟩
end K72

-- K72Lots
set_option Elab.async false
set_option linter.all false
set_option maxRecDepth 100000
set_option maxHeartbeats 4000000
/-! words.py, lots.py: numbers, lots. -/
namespace K72
open PySem PySem.Spec PyProof.Rows L2
/-! ### the mirror -/
def vi (n : Nat) : V := .int n
def lotOf (n : Nat) (xs : List Nat) : List Nat := (List.range n).filter fun c => xs.contains c
def others (n : Nat) (xs : List Nat) : List Nat := (List.range n).filter fun c => !(lotOf n xs).contains c
def allLotsF (lots : List (List Nat)) : List Nat → List (List Nat)
  | [] => lots
  | c :: r => allLotsF (lots ++ lots.map (· ++ [c])) r
def allLots (n : Nat) : List (List Nat) := allLotsF [[]] (List.range n)
def holdsN (lot part : List Nat) : Bool := part.all fun c => lot.contains c
def codeN (lot : List Nat) : Nat := (lot.map fun c => 2 ^ c).sum
def middleN (n : Nat) : List (List Nat) := (allLots n).filter fun l => decide (0 < l.length) && decide (l.length < n)

/-! ### how lots stand -/
/-- a tuple of copies -/
def LT (K : PySem.W.Frag) (H : Hp) (a : Addr) (l : List Nat) : Prop := SqT K H a (l.map vi)
theorem LT.same {K : PySem.W.Frag} {H H' : Hp} {a : Addr} {l : List Nat} (h : LT K H a l) (e : Same H H') : LT K H' a l := Same.tup e h
/-- a list of lots -/
def LLs (K : PySem.W.Frag) (H : Hp) (as : List Addr) (ls : List (List Nat)) : Prop := Paired (LT K H) as ls
theorem Pd.app {α β : Type} {F : α → β → Prop} : ∀ {l l' : List α} {r r' : List β}, Paired F l r → Paired F l' r' → Paired F (l ++ l') (r ++ r')
  | _, _, _, _, .nil, h => h
  | _, _, _, _, .cons a t, h => .cons a (Pd.app t h)
theorem LLs.same {K : PySem.W.Frag} {H H' : Hp} {as : List Addr} {ls : List (List Nat)} (h : LLs K H as ls) (e : Same H H') : LLs K H' as ls := Pd.imp (fun _ _ x => LT.same x e) h
theorem inV_vi (c : Nat) (xs : List Nat) : inV (vi c) (xs.map vi) = xs.contains c := by
  unfold inV
  induction xs with
  | nil => rfl
  | cons x r ih =>
    simp only [List.map_cons, List.any_cons, List.contains_cons, ih]
    congr 1
    simp only [vi, eqV]
    have : ((x : Int) == (c : Int)) = (c == x) := by
      by_cases h : c = x
      · subst h; simp
      · have h2 : ¬ ((x : Int) = (c : Int)) := by omega
        rw [beq_eq_false_iff_ne.mpr h, beq_eq_false_iff_ne.mpr h2]
    first
      | exact this
      | simp [this]
theorem flat_vi (xs : List Nat) : (xs.map vi).all flatV = true := by
  induction xs with
  | nil => rfl
  | cons x r ih => simp only [List.map_cons, List.all_cons, ih]; rfl

section
variable {P : Program} {w : World} {K : PySem.W.Frag} {mg : Str → Option Value} {base : Heap}
/-! ### numbers -/
def spIsInt : Sp := fun vs H Q _ => ∃ i : Int, vs = [.int i] ∧ Q (.bl true) H
theorem sc_is_integer : FnScope ["value"] ["value"] (defScope s_is_integer) := ⟨rfl, rfl, rfl, by decide +kernel, rfl, by decide +kernel, by decide +kernel⟩
theorem r_is_integer (T : Ft K mg) : CalR P w K mg base 1 "is_integer" spIsInt := by
  refine cal_of T.g_is_integer T.f_is_integer sc_is_integer (fun _ _ _ _ _ _ us hl => match us, hl with | [_], _ => rfl) (fun vs H Q E h => ?_) fun cdv A outer s H vs Q E hr h => ?_
  · obtain ⟨i, rfl, _⟩ := h; rfl
  · obtain ⟨i, rfl, q⟩ := h
    refine ⟨_, pss_one (ps_ret (pe_and (pe_callB call_isi rfl T.z_isinstance boot_isinstance (pa_cons (pv 0) (pa_cons (pe_bltn (v := .ty "int") rfl T.z_int boot_int rfl) pa_nil)))
      (pe_one (pe_not (pe_callB call_isi rfl T.z_isinstance boot_isinstance (pa_cons (pv 0) (pa_cons (pe_bltn (v := .ty "bool") rfl T.z_bool boot_bool rfl) pa_nil))))))), ?_⟩
    refine ⟨_, rfl, _, _, _, _, true, rfl, .ty "int", .base (.int i), kit_ty (by decide +kernel), true, rfl, ?_⟩
    refine iteT ?_
    exact ⟨_, rfl, _, _, _, _, false, rfl, .ty "bool", .base (.int i), kit_ty (by decide +kernel), false, rfl, q⟩
/-- a bound, or None -/
def bnd (v : V) : Option Int → Prop
  | none => v = .non
  | some n => v = .int n
def spCheck : Sp := fun vs H Q _ => ∃ (a v lo hi : V) (i : Int) (l h : Option Int), vs = [a, v, lo, hi] ∧ v = .int i ∧ bnd lo l ∧ bnd hi h ∧ (∀ n, l = some n → n ≤ i) ∧ (∀ n, h = some n → i ≤ n) ∧ Q (.int i) H
theorem sc_check_number : FnScope ["what", "value", "low", "high"] ["what", "value", "low", "high"] (defScope s_check_number) := ⟨rfl, rfl, rfl, by decide +kernel, rfl, by decide +kernel, by decide +kernel⟩
theorem r_check_number (T : Ft K mg) : CalR P w K mg base 2 "check_number" spCheck := by
  refine cal_of T.g_check_number T.f_check_number sc_check_number (fun _ _ _ _ _ _ us hl => match us, hl with | [_, _, _, _], _ => rfl) (fun vs H Q E h => ?_) fun cdv A outer s H vs Q E hr h => ?_
  · obtain ⟨_, _, _, _, _, _, _, rfl, _⟩ := h; rfl
  · obtain ⟨a, v, lo, hi, i, l, h, rfl, rfl, bl, bh, hlo, hhi, q⟩ := h
    refine ⟨_, pss_cons (ps_if (PW.pt (pw_or (pt_not (pt_val (pe_cr (r_is_integer T) hr (by decide) rfl (pa_cons (pv 1) pa_nil)))) (pw_or (PW.pt (pw_and (pt_cmp (pc_notN (pv 2))) (pw_and1 (pt_cmp (pc_lt (pv 1) (pv 2))))))
      (pw_or1 (PW.pt (pw_and (pt_cmp (pc_notN (pv 3))) (pw_and1 (pt_cmp (pc_gt (pv 1) (pv 3))))))))))
      (pss_one ps_never) pss_nil) (pss_one (ps_ret (pv 1))), ?_⟩
    refine ⟨_, rfl, i, rfl, true, rfl, ?_⟩
    refine iteF ?_
    have last : tVar 1 (start ["what", "value", "low", "high"] [a, .int i, lo, hi]) H Q := ⟨_, rfl, q⟩
    have two : (tAnd (tB (tNotN (tVar 3))) (tB (tGt (tVar 1) (tVar 3)))) (start ["what", "value", "low", "high"] [a, .int i, lo, hi]) H fun b H1 => if b = true then False else tVar 1 (start ["what", "value", "low", "high"] [a, .int i, lo, hi]) H1 Q := by
      cases h with
      | none =>
        cases bh
        exact ⟨_, rfl, _, rfl, iteF (iteF (A := False) last)⟩
      | some n =>
        cases bh
        refine ⟨_, rfl, _, rfl, iteT ⟨_, rfl, _, rfl, _, _, rfl, rfl, _, rfl, ?_⟩⟩
        have := hhi n rfl
        exact iteFd (by omega) (iteF (A := False) last)
    cases l with
    | none =>
      cases bl
      exact ⟨_, rfl, _, rfl, iteF (iteF two)⟩
    | some n =>
      cases bl
      refine ⟨_, rfl, _, rfl, iteT ⟨_, rfl, _, rfl, _, _, rfl, rfl, _, rfl, ?_⟩⟩
      have := hlo n rfl
      exact iteFd (by omega) two
/-! ### lots -/
/-- numbers is a list or a tuple of copies -/
def SqN (K : PySem.W.Frag) (H : Hp) (a : Addr) (xs : List Nat) : Prop := SqT K H a (xs.map vi)
def spLotOf (K : PySem.W.Frag) : Sp := fun vs H Q _ => ∃ (n : Nat) (a : Addr) (xs : List Nat), vs = [vi n, .ref a] ∧ 1 ≤ n ∧ n ≤ 8 ∧ LT K H a xs ∧ (∀ x ∈ xs, x < n) ∧ xs.length < 1000 ∧
  ∀ p H', H p = none → Same H H' → H' p = some (.tup ((lotOf n xs).map vi)) → Q (.ref p) H'
abbrev nm_lot_of : List Str := ["copies", "numbers", "number", "copy"]
theorem sc_lot_of : FnScope ["copies", "numbers", "number", "copy"] ["copies", "numbers"] (defScope s_lot_of) := ⟨rfl, rfl, rfl, by decide +kernel, rfl, by decide +kernel, by decide +kernel⟩
theorem r_lot_of (T : Ft K mg) : CalR P w K mg base 3 "lot_of" (spLotOf K) := by
  refine cal_of T.g_lot_of T.f_lot_of sc_lot_of (fun _ _ _ _ _ _ us hl => match us, hl with | [_, _], _ => rfl) (fun vs H Q E h => ?_) fun cdv A outer s H vs Q E hr h => ?_
  · obtain ⟨_, _, _, rfl, _⟩ := h; rfl
  · obtain ⟨n, a, xs, rfl, h1, h8, hx, hlt, hlen, q⟩ := h
    have CK : CalR P w K mg base 2 "check_number" spCheck := r_check_number T
    refine ⟨_, pss_cons (ps_expr (pe_cr CK hr (by decide) rfl (pa_cons pe_str (pa_cons (pv 0) (pa_cons pe_int (pa_cons (pe_gc rfl T.i_MOST_COPIES) pa_nil))))))
      (pss_cons (ps_for PassesOwn.never rfl (pi_tup (pv 1)) (pg_name (i := 2) sc_lot_of.nd rfl (.inl rfl))
        (pss_one (ps_expr (pe_cr CK hr (by decide) rfl (pa_cons pe_str (pa_cons (pv 2) (pa_cons pe_int (pa_cons (pe_op op_sub (pv 0) pe_int) pa_nil))))))))
      (pss_one (ps_ret (pe_callTy call_tuple_of rfl T.z_tuple boot_tuple (pa_cons
        (pe_lc (own := [("copy", 3)]) (g := gName 3) rfl sc_lot_of.nd (pi_range1 rfl T.z_range (pa_cons (pv 0) pa_nil)) (blkOk_by (N := nm_lot_of) (sc := defScope s_lot_of) (by decide +kernel)) (fun _ _ _ _ _ => pg_name (i := 3) sc_lot_of.nd rfl (.inl rfl))
          (fun _ _ _ _ _ => pts_one (pt_cmpR (op_inK K) (pv 3) (pv 1) rfl)) (fun _ _ _ _ _ => pv 3)) pa_nil))))), ?_⟩
    refine ⟨_, rfl, _, _, _, _, n, some 1, some 8, rfl, rfl, rfl, rfl, by rintro _ ⟨⟩; omega, by rintro _ ⟨⟩; omega, ?_⟩
    refine ⟨_, rfl, a, rfl, ⟨_, hx⟩, for_walk (walk_tup hx) (fun i σ H' => H' = H ∧ ∃ v, σ = [some (vi n), some (.ref a), v, none]) ⟨rfl, none, rfl⟩ (fun i σ H' h => by rw [h.1]; exact Same.refl _) ?_ ?_⟩
    · rintro i x σ H' hxi ⟨rfl, v, rfl⟩
      rw [List.getElem?_map] at hxi
      obtain ⟨c, hc, rfl⟩ := Option.map_eq_some_iff.mp hxi
      have hcl := hlt c (List.mem_of_getElem? hc)
      exact ⟨_, rfl, _, rfl, _, _, rfl, rfl, _, _, _, _, c, some 0, some (n - 1), rfl, rfl, rfl, rfl, by rintro _ ⟨⟩; omega, by rintro _ ⟨⟩; omega, rfl, _, rfl⟩
    · rintro σ H' ⟨rfl, v, rfl⟩
      refine ⟨_, rfl, _, rfl, by omega, by omega, ?_⟩
      refine fun D hD => lc_rngV (fun c => xs.contains c) vi (by omega) (fun _ => rfl) ?_ ?_ hD ?_
      · intro c H1 e hm Q' q'
        refine ⟨_, rfl, _, rfl, a, _, rfl, .inr (Same.tup e hx), rfl, flat_vi _, _, rfl, ?_⟩
        rw [if_neg Bool.false_ne_true, show V.int (c : Int) = vi c from rfl, inV_vi c xs]
        exact q' _ (Same.refl _)
      · intro c H1 e hm _ Q' q'
        exact ⟨_, rfl, q' _ (Same.refl _)⟩
      · intro H1 e hH1
        exact ⟨D, _, rfl, .inl ⟨SqL.of hH1, fun l hl => q l _ (e.free hl) (e.trans (Same.new hl)) upd_same⟩⟩
end
end K72

-- K72Lots2
set_option Elab.async false
set_option linter.all false
set_option maxRecDepth 100000
set_option maxHeartbeats 4000000
/-! lots.py, continued. -/
namespace K72
open PySem PySem.Spec PyProof.Rows L2
theorem allLotsF_snoc (c : Nat) : ∀ (r : List Nat) (L : List (List Nat)), allLotsF L (r ++ [c]) = allLotsF L r ++ (allLotsF L r).map (· ++ [c])
  | [], L => rfl
  | d :: r, L => allLotsF_snoc c r _
theorem allLots_succ (n : Nat) : allLots (n + 1) = allLots n ++ (allLots n).map (· ++ [n]) := by
  unfold allLots
  rw [List.range_succ, allLotsF_snoc]
theorem allLots_len (n : Nat) : (allLots n).length = 2 ^ n := by
  induction n with
  | zero => rfl
  | succ n ih => rw [allLots_succ, List.length_append, List.length_map, ih, Nat.pow_succ]; omega
theorem allLots_lt {n : Nat} : ∀ {l : List Nat}, l ∈ allLots n → ∀ c ∈ l, c < n := by
  induction n with
  | zero => intro l h c hc; simp [allLots, allLotsF] at h; subst h; cases hc
  | succ n ih =>
    intro l h c hc
    rw [allLots_succ, List.mem_append, List.mem_map] at h
    rcases h with h | ⟨m, h, rfl⟩
    · exact Nat.lt_succ_of_lt (ih h c hc)
    · rcases List.mem_append.mp hc with hc | hc
      · exact Nat.lt_succ_of_lt (ih h c hc)
      · simp at hc; omega
theorem allLots_llen {n : Nat} : ∀ {l : List Nat}, l ∈ allLots n → l.length ≤ n := by
  induction n with
  | zero => intro l h; simp [allLots, allLotsF] at h; subst h; simp
  | succ n ih =>
    intro l h
    rw [allLots_succ, List.mem_append, List.mem_map] at h
    rcases h with h | ⟨m, h, rfl⟩
    · exact Nat.le_succ_of_le (ih h)
    · have := ih h; simp; omega
/-- t + u: some tuple of both's items -/
theorem cat_any {K : PySem.W.Frag} {H : Hp} {a b : Addr} {xs ys : List V} {Q : VK} (ha : SqT K H a xs) (hb : SqT K H b ys) (hl : xs.length + ys.length ≤ 1000) (q : ∀ p H', Same H H' → SqT K H' p (xs ++ ys) → Q (.ref p) H') : rCatA K (.ref a) (.ref b) H Q := by
  refine ⟨a, b, xs, ys, rfl, rfl, ha, hb, line_of (by omega), fun e => ?_, fun _ e => ?_, fun _ _ p hp => q p _ (Same.new hp) (SqT.of upd_same)⟩
  · subst e; exact q b H (Same.refl _) hb
  · subst e; exact q a H (Same.refl _) (by rw [List.append_nil]; exact ha)
/-- a lot that is a tuple of its own -/
def LS (H : Hp) (a : Addr) (l : List Nat) : Prop := H a = some (.tup (l.map vi))
def LSs (H : Hp) (as : List Addr) (ls : List (List Nat)) : Prop := Paired (LS H) as ls
theorem LS.x {H H' : Hp} {a : Addr} {l : List Nat} (h : LS H a l) (e : SameX H H') : LS H' a l := e _ _ h (fun _ q => by cases q)
theorem LSs.x {H H' : Hp} {as : List Addr} {ls : List (List Nat)} (h : LSs H as ls) (e : SameX H H') : LSs H' as ls := Pd.imp (fun _ _ q => LS.x q e) h
theorem LSs.same {H H' : Hp} {as : List Addr} {ls : List (List Nat)} (h : LSs H as ls) (e : Same H H') : LSs H' as ls := h.x e.x
theorem LSs.lls {K : PySem.W.Frag} {H : Hp} {as : List Addr} {ls : List (List Nat)} (h : LSs H as ls) : LLs K H as ls := Pd.imp (fun _ _ q => SqT.of q) h
theorem cat_str {K : PySem.W.Frag} {H : Hp} {a b : Addr} {xs ys : List V} {Q : VK} (ha : H a = some (.tup xs)) (hb : H b = some (.tup ys)) (hn : ys ≠ []) (hl : xs.length + ys.length ≤ 1000) (q : ∀ p H', Same H H' → H' p = some (.tup (xs ++ ys)) → Q (.ref p) H') : rCatA K (.ref a) (.ref b) H Q := by
  refine ⟨a, b, xs, ys, rfl, rfl, SqT.of ha, SqT.of hb, line_of (by omega), fun e => ?_, fun _ e => absurd e hn, fun _ _ p hp => q p _ (Same.new hp) upd_same⟩
  subst e; exact q b H (Same.refl _) hb
section
variable {P : Program} {w : World} {K : PySem.W.Frag} {mg : Str → Option Value} {base : Heap}
def spOthers (K : PySem.W.Frag) : Sp := fun vs H Q _ => ∃ (n : Nat) (a : Addr) (xs : List Nat), vs = [vi n, .ref a] ∧ 1 ≤ n ∧ n ≤ 8 ∧ LT K H a xs ∧ (∀ x ∈ xs, x < n) ∧ xs.length < 1000 ∧
  ∀ p H', H p = none → Same H H' → H' p = some (.tup ((others n xs).map vi)) → Q (.ref p) H'
abbrev nm_others : List Str := ["copies", "lot", "copy"]
theorem sc_others : FnScope nm_others ["copies", "lot"] (defScope s_others) := ⟨rfl, rfl, rfl, by decide +kernel, rfl, by decide +kernel, by decide +kernel⟩
theorem r_others (T : Ft K mg) : CalR P w K mg base 4 "others" (spOthers K) := by
  refine cal_of T.g_others T.f_others sc_others (fun _ _ _ _ _ _ us hl => match us, hl with | [_, _], _ => rfl) (fun vs H Q E h => ?_) fun cdv A outer s H vs Q E hr h => ?_
  · obtain ⟨_, _, _, rfl, _⟩ := h; rfl
  · obtain ⟨n, a, xs, rfl, h1, h8, hx, hlt, hlen, q⟩ := h
    refine ⟨_, pss_cons (ps_set (i := 1) sc_others.nd rfl (.inr rfl) (pe_cr (r_lot_of T) hr (by decide) rfl (pa_cons (pv 0) (pa_cons (pv 1) pa_nil))))
      (pss_one (ps_ret (pe_callTy call_tuple_of rfl T.z_tuple boot_tuple (pa_cons
        (pe_lc (own := [("copy", 2)]) (g := gName 2) rfl sc_others.nd (pi_range1 rfl T.z_range (pa_cons (pv 0) pa_nil)) (blkOk_by (N := nm_others) (sc := defScope s_others) (by decide +kernel)) (fun _ _ _ _ _ => pg_name (i := 2) sc_others.nd rfl (.inl rfl))
          (fun _ _ _ _ _ => pts_one (pt_cmpR (op_notInK K) (pv 2) (pv 1) rfl)) (fun _ _ _ _ _ => pv 2)) pa_nil)))), ?_⟩
    refine ⟨_, rfl, _, rfl, n, a, xs, rfl, h1, h8, hx, hlt, hlen, fun p H1 hp e1 hp1 => ?_⟩
    have hl : LT K H1 p (lotOf n xs) := SqT.of hp1
    refine ⟨_, rfl, _, rfl, by omega, by omega, ?_⟩
    refine fun D hD => lc_rngV (fun c => !(lotOf n xs).contains c) vi (by omega) (fun _ => rfl) ?_ ?_ hD ?_
    · intro c H2 e hm Q' q'
      refine ⟨_, rfl, _, rfl, p, _, rfl, .inr (Same.tup e hl), rfl, flat_vi _, _, rfl, ?_⟩
      rw [if_pos rfl, show V.int (c : Int) = vi c from rfl, inV_vi c]
      exact q' _ (Same.refl _)
    · intro c H2 e hm _ Q' q'
      exact ⟨_, rfl, q' _ (Same.refl _)⟩
    · intro H2 e hH2
      exact ⟨D, _, rfl, .inl ⟨SqL.of hH2, fun l hl' => q l _ (e1.free (e.free hl')) ((e1.trans e).trans (Same.new hl')) upd_same⟩⟩
/-- a new list of new lots -/
def spAllLotsS : Sp := fun vs H Q _ => ∃ n : Nat, vs = [vi n] ∧ 1 ≤ n ∧ n ≤ 8 ∧ ∀ p as H', H p = none → Same H H' → H' p = some (.lst (as.map V.ref)) → LSs H' as (allLots n) → Q (.ref p) H'
abbrev nm_all_lots : List Str := ["copies", "lots", "copy", "lot"]
theorem sc_all_lots : FnScope nm_all_lots ["copies"] (defScope s_all_lots) := ⟨rfl, rfl, rfl, by decide +kernel, rfl, by decide +kernel, by decide +kernel⟩
theorem r_all_lotsS (T : Ft K mg) : CalR P w K mg base 3 "all_lots" spAllLotsS := by
  refine cal_of T.g_all_lots T.f_all_lots sc_all_lots (fun _ _ _ _ _ _ us hl => match us, hl with | [_], _ => rfl) (fun vs H Q E h => ?_) fun cdv A outer s H vs Q E hr h => ?_
  · obtain ⟨_, rfl, _⟩ := h; rfl
  · obtain ⟨n, rfl, h1, h8, q⟩ := h
    refine ⟨_, pss_cons (ps_expr (pe_cr (r_check_number T) hr (by decide) rfl (pa_cons pe_str (pa_cons (pv 0) (pa_cons pe_int (pa_cons (pe_gc rfl T.i_MOST_COPIES) pa_nil))))))
      (pss_cons (ps_set (i := 1) sc_all_lots.nd rfl (.inl rfl) (pe_lst (pa_cons (pe_tup pa_nil) pa_nil)))
      (pss_cons (ps_for PassesOwn.never rfl (pi_range1 rfl T.z_range (pa_cons (pv 0) pa_nil)) (pg_name (i := 2) sc_all_lots.nd rfl (.inr rfl))
        (pss_one (ps_set (i := 1) sc_all_lots.nd rfl (.inl rfl) (pe_op op_cat (pv 1)
          (pe_lc (own := [("lot", 3)]) (g := gName 3) rfl sc_all_lots.nd (pi_list (pv 1)) (blkOk_by (N := nm_all_lots) (sc := defScope s_all_lots) (by decide +kernel)) (fun _ _ _ _ _ => pg_name (i := 3) sc_all_lots.nd rfl (.inl rfl))
            (fun _ _ _ _ _ => pts_nil) (fun _ _ _ _ _ => pe_op (op_catK K) (pv 3) (pe_tup (pa_cons (pv 2) pa_nil))))))))
      (pss_one (ps_ret (pv 1))))), ?_⟩
    refine ⟨_, rfl, _, _, _, _, n, some 1, some 8, rfl, rfl, rfl, rfl, by rintro _ ⟨⟩; omega, by rintro _ ⟨⟩; omega, ?_⟩
    refine ⟨line_of (by show 0 ≤ 100000; decide), fun p0 hp0 => ⟨line_of (by show 1 ≤ 100000; decide), fun p1 hp1 => ?_⟩⟩
    have e01 : Same H (upd (upd H p0 (.tup [])) p1 (.lst [.ref p0])) := (Same.new hp0).trans (Same.new hp1)
    have n1 : H p1 = none := (Same.new hp0).free hp1
    refine ⟨_, rfl, _, rfl, by omega, by omega, ?_⟩
    refine for_walk walk_rng (fun i σ H' => Same (upd (upd H p0 (.tup [])) p1 (.lst [.ref p0])) H' ∧ ∃ p as v, σ = [some (vi n), some (.ref p), v, none] ∧ H p = none ∧ H' p = some (.lst (as.map V.ref)) ∧ LSs H' as (allLots i))
      ⟨Same.refl _, p1, [p0], none, rfl, n1, upd_same, .cons (show _ = _ by rw [upd_ne (fun e => by rw [e] at hp1; rw [upd_same] at hp1; cases hp1)]; exact upd_same) .nil⟩ (fun i σ H' h => h.1) ?_ ?_
    · rintro i x σ H' hx ⟨e, p, as, v, rfl, hpn, hp, hl⟩
      obtain ⟨hi, e2⟩ := List.getElem?_eq_some_iff.mp hx
      simp only [List.length_map, List.length_range, List.getElem_map, List.getElem_range, Int.zero_add, Int.toNat_natCast] at e2 hi
      subst e2
      refine ⟨_, rfl, _, rfl, p, rfl, ⟨_, SqL.of hp⟩, ?_⟩
      have hll : (allLots i).length ≤ 256 := by
        rw [allLots_len]
        calc 2 ^ i ≤ 2 ^ 8 := Nat.pow_le_pow_right (by decide) (by omega)
          _ = 256 := rfl
      have hal : as.length ≤ 256 := by rw [Pd.len hl]; exact hll
      refine fun D hD => lc_pure (zs := allLots i) (xs := as.map V.ref) (I := fun z x => ∃ a : Addr, x = V.ref a ∧ LS H' a z) (fun _ => true) (fun z y H'' => ∃ a : Addr, y = V.ref a ∧ LS H'' a (z ++ [i])) (fun z v Ha Hb e h => ?_)
        (walk_lst (SqL.of hp)) ?_ (by rw [List.length_map]; omega) (fun _ => rfl) (fun z x H1 e1 m hI Q' q' => q' _ (Same.refl _)) ?_ hD ?_
      · obtain ⟨a, rfl, h⟩ := h
        exact ⟨a, rfl, LS.x h e⟩
      · exact pd_swap (pd_mapL (Pd.imp (fun a b h => ⟨a, rfl, h⟩) hl))
      · rintro z x H1 e1 m ⟨a, rfl, ha⟩ _ Q' q'
        have hz := allLots_llen m
        refine ⟨_, rfl, _, rfl, line_of (by show 1 ≤ 100000; decide), fun t ht => ?_⟩
        refine cat_str (K := K) (xs := z.map vi) (ys := [vi i]) (Same.new ht _ _ (e1 _ _ ha)) (by rw [upd_same]; simp [vi]) (by simp) (by simp; omega) fun b H2 e2 hb => ?_
        exact q' _ _ ((Same.new ht).trans e2) ⟨b, rfl, by unfold LS; rw [List.map_append]; exact hb⟩
      · intro H2 ys e2 hys hp2
        obtain ⟨bs, rfl, hbs⟩ := pd_refs hp2
        rw [List.filter_eq_self.mpr (fun _ _ => rfl)] at hbs
        have hb2 : LSs H2 (as ++ bs) (allLots (i + 1)) := by
          rw [allLots_succ]
          exact Pd.app (LSs.same hl e2) (pd_swap (pd_mapL hbs))
        refine ⟨p, D, _, _, rfl, rfl, e2 _ _ hp, hys, line_of ?_, fun r hr' => ?_⟩
        · have := Pd.len hb2
          rw [allLots_len] at this
          have h3 : 2 ^ (i + 1) ≤ 2 ^ 8 := Nat.pow_le_pow_right (by decide) (by omega)
          simp at this ⊢
          omega
        · refine ⟨(e.trans e2).trans (Same.new hr'), r, as ++ bs, some (V.int (i : Int)), rfl, (e01.trans (e.trans e2)).free hr', ?_, LSs.same hb2 (Same.new hr')⟩
          rw [upd_same, List.map_append]
    · rintro σ H' ⟨e, p, as, v, rfl, hpn, hp, hl⟩
      rw [List.length_map, List.length_range] at hl
      exact ⟨_, rfl, q p as H' hpn (e01.trans e) hp hl⟩
/-- .. told as lots of any kind -/
def spAllLots (K : PySem.W.Frag) : Sp := fun vs H Q _ => ∃ n : Nat, vs = [vi n] ∧ 1 ≤ n ∧ n ≤ 8 ∧ ∀ p as H', H p = none → Same H H' → H' p = some (.lst (as.map V.ref)) → LLs K H' as (allLots n) → Q (.ref p) H'
theorem r_all_lots (T : Ft K mg) : CalR P w K mg base 3 "all_lots" (spAllLots K) :=
  (r_all_lotsS T).imp fun vs H Q E h => let ⟨n, e, h1, h8, q⟩ := h; ⟨n, e, h1, h8, fun p as H' hp e hp1 hl => q p as H' hp e hp1 hl.lls⟩
end
end K72

-- K72Lots3
set_option Elab.async false
set_option linter.all false
set_option maxRecDepth 100000
set_option maxHeartbeats 4000000
/-! lots.py: holds, code_of, middle_lots; is_lot_like. -/
namespace K72
open PySem PySem.Spec PyProof.Rows L2
section
variable {P : Program} {w : World} {K : PySem.W.Frag} {mg : Str → Option Value} {base : Heap}
def spHolds (K : PySem.W.Frag) : Sp := fun vs H Q _ => ∃ (a b : Addr) (l m : List Nat), vs = [.ref a, .ref b] ∧ LT K H a l ∧ LT K H b m ∧ m.length < 1000 ∧ ∀ H', Same H H' → Q (.bl (holdsN l m)) H'
abbrev nm_holds : List Str := ["lot", "part", "copy"]
theorem sc_holds : FnScope nm_holds ["lot", "part"] (defScope s_holds) := ⟨rfl, rfl, rfl, by decide +kernel, rfl, by decide +kernel, by decide +kernel⟩
theorem all_id (l : List Bool) : l.all id = l.all fun x => x := rfl
theorem r_holds (T : Ft K mg) : CalR P w K mg base 1 "holds" (spHolds K) := by
  refine cal_of T.g_holds T.f_holds sc_holds (fun _ _ _ _ _ _ us hl => match us, hl with | [_, _], _ => rfl) (fun vs H Q E h => ?_) fun cdv A outer s H vs Q E hr h => ?_
  · obtain ⟨_, _, _, _, rfl, _⟩ := h; rfl
  · obtain ⟨a, b, l, m, rfl, hl, hm, hlen, q⟩ := h
    refine ⟨_, pss_one (ps_ret (pe_callB (cr_allK K rfl) rfl T.z_all boot_all (pa_cons
        (pe_lc (own := [("copy", 2)]) (g := gName 2) rfl sc_holds.nd (pi_tup (pv 1)) (blkOk_by (N := nm_holds) (sc := defScope s_holds) (by decide +kernel)) (fun _ _ _ _ _ => pg_name (i := 2) sc_holds.nd rfl (.inl rfl))
          (fun _ _ _ _ _ => pts_nil) (fun _ _ _ _ _ => pe_cmpR (op_inK K) (pv 2) (pv 0) rfl)) pa_nil))), ?_⟩
    refine ⟨_, rfl, b, rfl, ⟨_, hm⟩, ?_⟩
    refine fun D hD => lc_val (zs := m) (I := fun c x => x = vi c) (fun _ => true) (fun c => V.bl (l.contains c)) (walk_tup hm) (pd_map m) (by rw [List.length_map]; omega) (fun _ => rfl) (fun z x H1 e1 hz hI Q' q' => q' _ (Same.refl _)) ?_ hD ?_
    · rintro c x H1 e hz rfl _ Q' q'
      refine ⟨_, rfl, _, rfl, a, _, rfl, .inr (Same.tup e hl), rfl, flat_vi _, ?_⟩
      rw [if_neg Bool.false_ne_true, inV_vi c l]
      exact q' _ (Same.refl _)
    · intro H1 e hH1
      rw [List.filter_eq_self.mpr (fun _ _ => rfl)] at hH1
      refine ⟨D, m.map fun c => l.contains c, rfl, SqL.of (by rw [hH1, List.map_map]; rfl), ?_⟩
      rw [List.all_map]
      exact q _ e
def spCodeOf (K : PySem.W.Frag) : Sp := fun vs H Q _ => ∃ (a : Addr) (l : List Nat), vs = [.ref a] ∧ LT K H a l ∧ (∀ c ∈ l, c < 8) ∧ l.length < 1000 ∧ ∀ H', Same H H' → Q (vi (codeN l)) H'
abbrev nm_code_of : List Str := ["lot", "copy"]
theorem sc_code_of : FnScope nm_code_of ["lot"] (defScope s_code_of) := ⟨rfl, rfl, rfl, by decide +kernel, rfl, by decide +kernel, by decide +kernel⟩
theorem codes_at {c : Nat} (h : c < 8) : ([1, 2, 4, 8, 16, 32, 64, 128].map V.int)[c]? = some (vi (2 ^ c)) := by
  match c, h with
  | 0, _ => rfl
  | 1, _ => rfl
  | 2, _ => rfl
  | 3, _ => rfl
  | 4, _ => rfl
  | 5, _ => rfl
  | 6, _ => rfl
  | 7, _ => rfl
  | n + 8, h => omega
theorem sum_cast (l : List Nat) : (l.map fun (n : Nat) => (n : Int)).sum = ((l.sum : Nat) : Int) := by
  induction l with
  | nil => rfl
  | cons a r ih => rw [List.map_cons, List.sum_cons, List.sum_cons, ih]; omega
theorem r_code_of (T : Ft K mg) : CalR P w K mg base 1 "code_of" (spCodeOf K) := by
  refine cal_of T.g_code_of T.f_code_of sc_code_of (fun _ _ _ _ _ _ us hl => match us, hl with | [_], _ => rfl) (fun vs H Q E h => ?_) fun cdv A outer s H vs Q E hr h => ?_
  · obtain ⟨_, _, rfl, _⟩ := h; rfl
  · obtain ⟨a, l, rfl, hl, h8, hlen, q⟩ := h
    refine ⟨_, pss_one (ps_ret (pe_callB (cr_sumK K rfl) rfl T.z_sum boot_sum (pa_cons
        (pe_lc (own := [("copy", 1)]) (g := gName 1) rfl sc_code_of.nd (pi_tup (pv 0)) (blkOk_by (N := nm_code_of) (sc := defScope s_code_of) (by decide +kernel)) (fun _ _ _ _ _ => pg_name (i := 1) sc_code_of.nd rfl (.inl rfl))
          (fun _ _ _ _ _ => pts_nil) (fun _ _ _ _ _ => pe_ix (ix_tupK K) (pe_gc (v := .ref (He.ga K "CODES")) rfl ⟨_, T.g_CODES, rfl⟩) (pv 1) (fun _ _ => rfl))) pa_nil))), ?_⟩
    refine ⟨_, rfl, a, rfl, ⟨_, hl⟩, ?_⟩
    refine fun D hD => lc_val (zs := l) (I := fun c x => x = vi c) (fun _ => true) (fun c => vi (2 ^ c)) (walk_tup hl) (pd_map l) (by rw [List.length_map]; omega) (fun _ => rfl) (fun z x H1 e1 hz hI Q' q' => q' _ (Same.refl _)) ?_ hD ?_
    · rintro c x H1 e hz rfl _ Q' q'
      exact ⟨_, rfl, He.ga K "CODES", _, _, _, rfl, rfl, T.codes _, atI_nat (codes_at (h8 c hz)), q' _ (Same.refl _)⟩
    · intro H1 e hH1
      rw [List.filter_eq_self.mpr (fun _ _ => rfl)] at hH1
      refine ⟨D, (l.map fun c => 2 ^ c).map fun (n : Nat) => (n : Int), rfl, SqL.of (by rw [hH1, List.map_map, List.map_map]; rfl), ?_⟩
      rw [sum_cast]
      exact q _ e
def spMiddle : Sp := fun vs H Q _ => ∃ n : Nat, vs = [vi n] ∧ 1 ≤ n ∧ n ≤ 8 ∧ ∀ p as H', H p = none → Same H H' → H' p = some (.lst (as.map V.ref)) → LSs H' as (middleN n) → Q (.ref p) H'
abbrev nm_middle_lots : List Str := ["copies", "lot"]
theorem sc_middle_lots : FnScope nm_middle_lots ["copies"] (defScope s_middle_lots) := ⟨rfl, rfl, rfl, by decide +kernel, rfl, by decide +kernel, by decide +kernel⟩
theorem allLots_256 {n : Nat} (h : n ≤ 8) : (allLots n).length ≤ 256 := by
  rw [allLots_len]
  exact Nat.le_trans (Nat.pow_le_pow_right (by decide) h) (by decide)
theorem lot_stay {K : PySem.W.Frag} (z : List Nat) : Stay (fun y H => ∃ a : Addr, y = V.ref a ∧ LT K H a z) := fun v H H' e ⟨a, h1, h2⟩ => ⟨a, h1, SameX.tup e h2⟩
theorem lots_in {K : PySem.W.Frag} {H : Hp} {as : List Addr} {ls : List (List Nat)} (h : LLs K H as ls) : Paired (fun z x => ∃ a : Addr, x = V.ref a ∧ LT K H a z) ls (as.map V.ref) :=
  pd_swap (pd_mapL (Pd.imp (fun a b h => ⟨a, rfl, h⟩) h))
theorem lots_out {K : PySem.W.Frag} {H : Hp} {ls : List (List Nat)} {ys : List V} (h : Paired (fun z y => ∃ a : Addr, y = V.ref a ∧ LT K H a z) ls ys) : ∃ as : List Addr, ys = as.map V.ref ∧ LLs K H as ls := by
  obtain ⟨as, e, p⟩ := pd_refs h
  exact ⟨as, e, pd_swap p⟩
theorem los_stay (z : List Nat) : Stay (fun y H => ∃ a : Addr, y = V.ref a ∧ LS H a z) := fun v H H' e ⟨a, h1, h2⟩ => ⟨a, h1, LS.x h2 e⟩
theorem los_in {H : Hp} {as : List Addr} {ls : List (List Nat)} (h : LSs H as ls) : Paired (fun z x => ∃ a : Addr, x = V.ref a ∧ LS H a z) ls (as.map V.ref) :=
  pd_swap (pd_mapL (Pd.imp (fun a b h => ⟨a, rfl, h⟩) h))
theorem los_out {H : Hp} {ls : List (List Nat)} {ys : List V} (h : Paired (fun z y => ∃ a : Addr, y = V.ref a ∧ LS H a z) ls ys) : ∃ as : List Addr, ys = as.map V.ref ∧ LSs H as ls := by
  obtain ⟨as, e, p⟩ := pd_refs h
  exact ⟨as, e, pd_swap p⟩
theorem r_middle_lots (T : Ft K mg) : CalR P w K mg base 4 "middle_lots" spMiddle := by
  refine cal_of T.g_middle_lots T.f_middle_lots sc_middle_lots (fun _ _ _ _ _ _ us hl => match us, hl with | [_], _ => rfl) (fun vs H Q E h => ?_) fun cdv A outer s H vs Q E hr h => ?_
  · obtain ⟨_, rfl, _⟩ := h; rfl
  · obtain ⟨n, rfl, h1, h8, q⟩ := h
    refine ⟨_, pss_one (ps_ret
        (pe_lc (own := [("lot", 1)]) (g := gName 1) rfl sc_middle_lots.nd (pi_list (pe_cr (r_all_lotsS T) hr (by decide) rfl (pa_cons (pv 0) pa_nil))) (blkOk_by (N := nm_middle_lots) (sc := defScope s_middle_lots) (by decide +kernel)) (fun _ _ _ _ _ => pg_name (i := 1) sc_middle_lots.nd rfl (.inl rfl))
          (fun _ _ _ _ _ => pts_one (pt_chain op_lt op_lt pe_int (pe_callB (call_lenK K) rfl T.z_len boot_len (pa_cons (pv 1) pa_nil)) (pv 0))) (fun _ _ _ _ _ => pv 1))), ?_⟩
    refine ⟨_, rfl, n, rfl, h1, h8, fun p as H1 hp e1 hp1 hl => ?_⟩
    refine ⟨p, rfl, ⟨_, SqL.of hp1⟩, ?_⟩
    have hle := allLots_256 h8
    have hal : as.length ≤ 256 := by rw [Pd.len hl]; exact hle
    refine fun D hD => lc_pure (zs := allLots n) (I := fun z x => ∃ a : Addr, x = V.ref a ∧ LS H1 a z) (fun l => decide (0 < l.length) && decide (l.length < n)) (fun z y H' => ∃ a : Addr, y = V.ref a ∧ LS H' a z) los_stay
      (walk_lst (SqL.of hp1)) (los_in hl) (by rw [List.length_map]; omega) (fun _ => rfl) ?_ ?_ hD ?_
    · rintro z x H2 e2 m ⟨a, rfl, ha⟩ Q' q'
      refine ⟨_, rfl, a, _, rfl, .inr (SqT.of (e2 _ _ ha)), _, _, rfl, rfl, _, rfl, ?_⟩
      rw [List.length_map]
      by_cases h0 : 0 < z.length
      · refine iteTd (by show (0 : Int) < _; omega) ⟨_, rfl, _, _, rfl, rfl, _, rfl, ?_⟩
        have := q' H2 (Same.refl _)
        rw [decide_eq_true h0, Bool.true_and] at this
        have e3 : decide ((z.length : Int) < (n : Int)) = decide (z.length < n) := by
          by_cases h4 : z.length < n
          · rw [decide_eq_true h4, decide_eq_true (by omega)]
          · rw [decide_eq_false h4, decide_eq_false (by omega)]
        rw [e3]
        exact this
      · refine iteFd (by show ¬ (0 : Int) < _; omega) ⟨_, rfl, ?_⟩
        have := q' H2 (Same.refl _)
        rw [decide_eq_false h0, Bool.false_and] at this
        exact this
    · rintro z x H2 e2 m ⟨a, rfl, ha⟩ _ Q' q'
      exact ⟨_, rfl, q' _ _ (Same.refl _) ⟨a, rfl, e2 _ _ ha⟩⟩
    · intro H2 ys e2 hys hp2
      obtain ⟨bs, rfl, hb⟩ := los_out hp2
      exact q D bs H2 (e1.free hD) (e1.trans e2) hys hb
end
end K72

-- K72Asc
set_option Elab.async false
set_option linter.all false
set_option maxRecDepth 100000
set_option maxHeartbeats 4000000
/-! lots.py: ascending. -/
namespace K72
open PySem PySem.Spec PyProof.Rows L2
/-! ### the order of lots -/
def ascN (n : Nat) (ls : List (List Nat)) : List (List Nat) := (allLots n).filter fun l => ls.contains l
theorem codeN_app (l : List Nat) (c : Nat) : codeN (l ++ [c]) = codeN l + 2 ^ c := by
  unfold codeN
  rw [List.map_append, List.sum_append]
  simp
theorem codes_all (n : Nat) : (allLots n).map codeN = List.range (2 ^ n) := by
  induction n with
  | zero => rfl
  | succ n ih =>
    rw [allLots_succ, List.map_append, ih, Nat.pow_succ, Nat.mul_two, List.range_add, List.map_map]
    congr 1
    rw [← ih, List.map_map]
    apply List.map_congr_left
    intro l _
    show codeN (l ++ [n]) = _
    rw [codeN_app, Nat.add_comm]; rfl
theorem code_inj {n : Nat} {a b : List Nat} (ha : a ∈ allLots n) (hb : b ∈ allLots n) (e : codeN a = codeN b) : a = b := by
  obtain ⟨i, hi, ea⟩ := List.mem_iff_getElem.mp ha
  obtain ⟨j, hj, eb⟩ := List.mem_iff_getElem.mp hb
  have h1 : ((allLots n).map codeN)[i]? = some (codeN a) := by rw [List.getElem?_map, List.getElem?_eq_getElem hi, ea]; rfl
  have h2 : ((allLots n).map codeN)[j]? = some (codeN b) := by rw [List.getElem?_map, List.getElem?_eq_getElem hj, eb]; rfl
  rw [codes_all] at h1 h2
  have g1 := (List.getElem?_eq_some_iff.mp h1).2
  have g2 := (List.getElem?_eq_some_iff.mp h2).2
  rw [List.getElem_range] at g1 g2
  have : i = j := by rw [g1, g2, e]
  subst this
  rw [← ea, ← eb]
theorem code_lt {n : Nat} {a : List Nat} (ha : a ∈ allLots n) : codeN a < 2 ^ n := by
  have : codeN a ∈ (allLots n).map codeN := List.mem_map.mpr ⟨a, ha, rfl⟩
  rw [codes_all] at this
  exact List.mem_range.mp this
theorem asc_lt (n : Nat) (ls : List (List Nat)) : ((ascN n ls).map codeN).Pairwise (· < ·) := by
  have h : ((allLots n).map codeN).Pairwise (· < ·) := by rw [codes_all]; exact List.pairwise_lt_range
  exact h.sublist (List.Sublist.map _ List.filter_sublist)
theorem asc_mem {n : Nat} {ls : List (List Nat)} {l : List Nat} : l ∈ ascN n ls ↔ l ∈ allLots n ∧ l ∈ ls := by
  unfold ascN
  rw [List.mem_filter, List.contains_iff_mem]
theorem asc_len (n : Nat) (ls : List (List Nat)) : (ascN n ls).length ≤ 2 ^ n := by
  rw [← allLots_len]
  exact List.length_filter_le _ _
/-! ### dicts by pairs -/
theorem nodup_put {kvs : List (Key × V)} {k : Key} {v : V} (h : (kvs.map (·.1)).Nodup) : ((putK kvs k v).map (·.1)).Nodup := by
  unfold putK
  split
  · have e : (kvs.map fun kv => if kv.1 = k then (kv.1, v) else kv).map (·.1) = kvs.map (·.1) := by
      rw [List.map_map]
      apply List.map_congr_left
      intro a _
      show (if a.1 = k then (a.1, v) else a).1 = a.1
      split <;> rfl
    rw [e]; exact h
  · rename_i hn
    rw [List.map_append, List.nodup_append]
    refine ⟨h, by simp, ?_⟩
    intro a ha b hb
    simp at hb
    subst hb
    obtain ⟨p, hp, rfl⟩ := List.mem_map.mp ha
    intro e
    exact hn (List.any_eq_true.mpr ⟨p, hp, by simpa using e⟩)
theorem mem_put {kvs : List (Key × V)} {k j : Key} {v : V} : j ∈ (putK kvs k v).map (·.1) ↔ j = k ∨ j ∈ kvs.map (·.1) := by
  unfold putK
  split
  · rename_i hn
    have e : (kvs.map fun kv => if kv.1 = k then (kv.1, v) else kv).map (·.1) = kvs.map (·.1) := by
      rw [List.map_map]
      apply List.map_congr_left
      intro a _
      show (if a.1 = k then (a.1, v) else a).1 = a.1
      split <;> rfl
    rw [e]
    obtain ⟨p, hp, q⟩ := List.any_eq_true.mp hn
    have q' : p.1 = k := by simpa using q
    constructor
    · exact .inr
    · rintro (rfl | h)
      · exact List.mem_map.mpr ⟨p, hp, q'⟩
      · exact h
  · rw [List.map_append, List.mem_append]
    simp [or_comm]
/-- all pairs put, one behind another -/
theorem merge_snoc (a : List (Key × V)) (p : Key × V) : mergeK [] (a ++ [p]) = putK (mergeK [] a) p.1 p.2 := by
  unfold mergeK
  rw [List.foldl_append]; rfl
/-- what a dict comprehension's block asks: {key(item): item for item in ..} -/
theorem dc_self {α : Type} {J : It} {H : Hp} {xs : List V} {zs : List α} {I : α → V → Prop} {j : Nat} {tk tv : TE} {vs : List Nat} {σ : L2.St} {D : Addr} {Qd : Hp → Prop} (key : α → Key) (W : Walk0 J H xs) (hI : Paired I zs xs)
    (hn : xs.length < 100000) (hw : ∀ x : V, wipe ((wipe σ vs).set j (some x)) vs = wipe σ vs)
    (hk : ∀ z x H1, Same H H1 → z ∈ zs → I z x → ∀ Q : VK, (∀ H2, Same H1 H2 → Q (kV (key z)) H2) → tk ((wipe σ vs).set j (some x)) H1 Q)
    (hv : ∀ z x H1, Same H H1 → z ∈ zs → I z x → ∀ Q : VK, (∀ H2, Same H1 H2 → Q x H2) → tv ((wipe σ vs).set j (some x)) H1 Q)
    (hD : H D = none) (done : ∀ H', Same H H' → H' D = some (.dK (mergeK [] ((zs.map key).zip xs))) → Qd H') :
    ∃ W : Nat → Nat → Hp → Prop, (∃ m, W 0 m (upd H D (.dK []))) ∧ ∀ i m H, W i m H →
      (J.stop i H ∧ Qd H) ∨ (J.go i H ∧ ∃ Nx : Hp → Prop, (∀ H', Nx H' → ∃ m', m' < m ∧ W (i + 1) m' H') ∧ ∀ x H', J.yld i H x H' → gName j x (wipe σ vs) H' fun σ2 H2 => wipe σ2 vs = wipe σ vs ∧ tYes σ2 H2 fun b H3 =>
        if b = true then tk σ2 H3 fun y H4 => tv σ2 H4 fun z H5 => ∃ kvs k, y = kV k ∧ H5 D = some (.dK kvs) ∧ kvs.length < sizeLine ∧ Nx (upd H5 D (.dK (putK kvs k z))) else Nx H3) := by
  have hl : zs.length = xs.length := Pd.len hI
  refine ⟨fun i m H' => m = xs.length - i ∧ i ≤ xs.length ∧ Same H H' ∧ H' D = some (.dK (mergeK [] (((zs.take i).map key).zip (xs.take i)))) ∧ (mergeK [] (((zs.take i).map key).zip (xs.take i))).length ≤ i,
    ⟨xs.length, by simp, Nat.zero_le _, Same.new hD, by simp [mergeK]; exact upd_same, by simp [mergeK]⟩, ?_⟩
  rintro i m H1 ⟨rfl, hi, e1, hys, hyl⟩
  by_cases hlt : i < xs.length
  · obtain ⟨x, hx⟩ : ∃ x, xs[i]? = some x := ⟨xs[i], List.getElem?_eq_getElem hlt⟩
    obtain ⟨z, hz, hIz⟩ := Pd.at hI hx
    have hzm : z ∈ zs := List.mem_of_getElem? hz
    have step : ((zs.take (i + 1)).map key).zip (xs.take (i + 1)) = ((zs.take i).map key).zip (xs.take i) ++ [(key z, x)] := by
      rw [List.take_add_one, List.take_add_one, hz, hx, List.map_append, List.zip_append (by simp; omega)]
      rfl
    refine .inr ⟨W.go i x H1 e1 hx, fun H' => i + 1 ≤ xs.length ∧ Same H H' ∧ H' D = some (.dK (mergeK [] (((zs.take (i + 1)).map key).zip (xs.take (i + 1))))) ∧ (mergeK [] (((zs.take (i + 1)).map key).zip (xs.take (i + 1)))).length ≤ i + 1,
      fun H' h => ⟨xs.length - (i + 1), by omega, rfl, h⟩, fun y H2 hy => ?_⟩
    obtain ⟨rfl, rfl⟩ := W.yld i x y H1 H2 e1 hx hy
    refine ⟨hw _, ?_⟩
    refine hk z y H2 e1 hzm hIz _ fun H3 e3 => hv z y H3 (e1.trans e3) hzm hIz _ fun H4 e4 => ?_
    refine ⟨_, key z, rfl, e4 _ _ (e3 _ _ hys), line_lt (by omega), hlt, Same.mut ((e1.trans e3).trans e4) hD, ?_⟩
    rw [step, merge_snoc]
    exact ⟨upd_same, Nat.le_trans (length_putK _ _ _) (by omega)⟩
  · have e : i = xs.length := by omega
    subst e
    rw [← hl, List.take_length, hl, List.take_length] at hys
    exact .inl ⟨W.stop H1 e1, done H1 e1 hys⟩
theorem merge_cons (acc : List (Key × V)) (p : Key × V) (ps : List (Key × V)) : mergeK acc (p :: ps) = mergeK (putK acc p.1 p.2) ps := rfl
theorem merge_keysA : ∀ (ps acc : List (Key × V)), (acc.map (·.1)).Nodup → ((mergeK acc ps).map (·.1)).Nodup ∧ ∀ k, k ∈ (mergeK acc ps).map (·.1) ↔ k ∈ acc.map (·.1) ∨ k ∈ ps.map (·.1)
  | [], acc, h => ⟨h, fun k => by simp [mergeK]⟩
  | p :: ps, acc, h => by
    rw [merge_cons]
    have ih := merge_keysA ps (putK acc p.1 p.2) (nodup_put h)
    refine ⟨ih.1, fun k => ?_⟩
    rw [ih.2, mem_put, List.map_cons, List.mem_cons]
    constructor
    · rintro ((h | h) | h)
      · exact .inr (.inl h)
      · exact .inl h
      · exact .inr (.inr h)
    · rintro (h | h | h)
      · exact .inl (.inr h)
      · exact .inl (.inl h)
      · exact .inr h
theorem merge_keys (ps : List (Key × V)) : ((mergeK [] ps).map (·.1)).Nodup ∧ ∀ k, k ∈ (mergeK [] ps).map (·.1) ↔ k ∈ ps.map (·.1) := by
  have := merge_keysA ps [] (by simp)
  exact ⟨this.1, fun k => by rw [this.2]; simp⟩
theorem merge_valA (k : Key) (v : V) : ∀ (ps acc : List (Key × V)), valV (mergeK acc ps) k = some v → (k, v) ∈ ps ∨ valV acc k = some v
  | [], acc, h => .inr h
  | p :: ps, acc, h => by
    rw [merge_cons] at h
    rcases merge_valA k v ps _ h with h | h
    · exact .inl (List.mem_cons_of_mem _ h)
    · rw [valV_put] at h
      split at h
      · rename_i e
        cases h
        exact .inl (by rw [e]; exact List.mem_cons_self)
      · exact .inr h
theorem merge_val (ps : List (Key × V)) (k : Key) (v : V) (h : valV (mergeK [] ps) k = some v) : (k, v) ∈ ps := by
  rcases merge_valA k v ps [] h with h | h
  · exact h
  · cases h
theorem merge_has (ps : List (Key × V)) (k : Key) (h : k ∈ ps.map (·.1)) : ∃ v, valV (mergeK [] ps) k = some v := by
  have h1 := ((merge_keys ps).2 k).mpr h
  obtain ⟨p, hp, e⟩ := List.mem_map.mp h1
  have h2 := valV_any k (mergeK [] ps)
  rw [List.any_eq_true.mpr ⟨p, hp, by simpa using e⟩] at h2
  exact Option.isSome_iff_exists.mp h2.symm
end K72

-- K72Asc2
set_option Elab.async false
set_option linter.all false
set_option maxRecDepth 100000
set_option maxHeartbeats 4000000
/-! lots.py: ascending, walked. -/
namespace K72
open PySem PySem.Spec PyProof.Rows L2
theorem walk_keys {d : Addr} {o : Obj} {kvs : List (Key × V)} {H : Hp} (h : H d = some (.frz o (.dK kvs))) : Walk0 (Itk d o kvs) H (kvs.map fun p => kV p.1) where
  go := fun i x H' e hx => ⟨e _ _ h, by have := (List.getElem?_eq_some_iff.mp hx).1; simpa using this⟩
  yld := fun i x y H' H2 e hx q => by
    obtain ⟨q1, k, v, q2, q3⟩ := q
    rw [List.getElem?_map, q2] at hx
    exact ⟨q1, by rw [q3]; exact Option.some.inj hx⟩
  stop := fun H' e => ⟨e _ _ h, by simp⟩
def keyN : Key → Nat
  | .inl i => i.toNat
  | .inr _ => 0
theorem keys_vi {kvs : List (Key × V)} (h : ∀ k ∈ kvs.map (·.1), ∃ c : Nat, k = Sum.inl (c : Int)) : (kvs.map fun p => kV p.1) = (kvs.map fun p => keyN p.1).map vi := by
  rw [List.map_map]
  apply List.map_congr_left
  intro p hp
  obtain ⟨c, e⟩ := h p.1 (List.mem_map.mpr ⟨p, hp, rfl⟩)
  show kV p.1 = vi (keyN p.1)
  rw [e]
  rfl
theorem zip_mem {α β : Type} {F : α → β → Prop} {γ : Type} {g : α → γ} : ∀ {zs : List α} {xs : List β} {k : γ} {x : β}, Paired F zs xs → (k, x) ∈ (zs.map g).zip xs → ∃ z ∈ zs, k = g z ∧ F z x
  | _, _, _, _, .nil, h => by simp at h
  | _, _, _, _, .cons (a := a) f t, h => by
    simp at h
    rcases h with ⟨rfl, rfl⟩ | h
    · exact ⟨_, List.mem_cons_self, rfl, f⟩
    · obtain ⟨z, hz, e, g⟩ := zip_mem t h
      exact ⟨z, List.mem_cons_of_mem _ hz, e, g⟩
theorem zip_fst {α β : Type} : ∀ {zs : List α} {xs : List β}, zs.length = xs.length → (zs.zip xs).map (·.1) = zs
  | [], _, _ => by simp
  | z :: zs, [], h => by simp at h
  | z :: zs, x :: xs, h => by simp at h; simp [zip_fst h]
section
variable {P : Program} {w : World} {K : PySem.W.Frag} {mg : Str → Option Value} {base : Heap}
def spAsc (K : PySem.W.Frag) : Sp := fun vs H Q _ => ∃ (n : Nat) (a : Addr) (as : List Addr) (ls : List (List Nat)), vs = [.ref a] ∧ n ≤ 5 ∧ SqL K H a (as.map V.ref) ∧ LLs K H as ls ∧ (∀ l ∈ ls, l ∈ allLots n) ∧ ls.length < 1000 ∧
  ∀ p bs H', H p = none → Same H H' → H' p = some (.lst (bs.map V.ref)) → LLs K H' bs (ascN n ls) → Q (.ref p) H'
abbrev nm_ascending : List Str := ["lots", "by_code", "lot", "code"]
theorem sc_ascending : FnScope nm_ascending ["lots"] (defScope s_ascending) := ⟨rfl, rfl, rfl, by decide +kernel, rfl, by decide +kernel, by decide +kernel⟩
theorem r_ascending (T : Ft K mg) : CalR P w K mg base 2 "ascending" (spAsc K) := by
  refine cal_of T.g_ascending T.f_ascending sc_ascending (fun _ _ _ _ _ _ us hl => match us, hl with | [_], _ => rfl) (fun vs H Q E h => ?_) fun cdv A outer s H vs Q E hr h => ?_
  · obtain ⟨_, _, _, _, rfl, _⟩ := h; rfl
  · obtain ⟨n, a, as, ls, rfl, h5, hS, hl, hall, hlen, q⟩ := h
    refine ⟨_, pss_cons (ps_set (i := 1) sc_ascending.nd rfl (.inr rfl)
        (pe_dc (own := [("lot", 2)]) (g := gName 2) rfl sc_ascending.nd (pi_list (pv 0)) (blkOk_by (N := nm_ascending) (sc := defScope s_ascending) (by decide +kernel)) (fun _ _ _ _ _ => pg_name (i := 2) sc_ascending.nd rfl (.inl rfl))
          (fun _ _ _ _ _ => pts_nil) (fun _ _ _ _ _ => pe_cr (r_code_of T) hr (by decide) rfl (pa_cons (pv 2) pa_nil)) (fun _ _ _ _ _ => pv 2)))
      (pss_one (ps_ret (pe_lc (own := [("code", 3)]) (g := gName 3) rfl sc_ascending.nd (pi_list (pe_callB cr_sorted rfl T.z_sorted boot_sorted (pa_cons
          (pe_lock (pe_lc (own := [("code", 3)]) (g := gName 3) rfl sc_ascending.nd (pi_keys (pv 1)) (blkOk_by (N := nm_ascending) (sc := defScope s_ascending) (by decide +kernel)) (fun _ _ _ _ _ => pg_name (i := 3) sc_ascending.nd rfl (.inl rfl))
            (fun _ _ _ _ _ => pts_nil) (fun _ _ _ _ _ => pe_callTy call_int1 rfl T.z_int boot_int (pa_cons (pv 3) pa_nil)))) pa_nil)))
        (blkOk_by (N := nm_ascending) (sc := defScope s_ascending) (by decide +kernel)) (fun _ _ _ _ _ => pg_name (i := 3) sc_ascending.nd rfl (.inl rfl))
        (fun _ _ _ _ _ => pts_nil) (fun _ _ _ _ _ => pe_dget (hu_of hr) (pv 1) (pv 3) (fun _ _ => rfl))))), ?_⟩
    have hal : as.length < 1000 := by rw [Pd.len hl]; exact hlen
    have hzl : ls.length = (as.map V.ref).length := by rw [List.length_map, Pd.len hl]
    refine ⟨_, rfl, a, rfl, ⟨_, hS⟩, ?_⟩
    refine fun D hD => dc_self (zs := ls) (I := fun z x => ∃ a : Addr, x = V.ref a ∧ LT K H a z) (fun z => Sum.inl (codeN z : Int)) (walk_lst hS) (lots_in hl) (by rw [List.length_map]; omega) (fun _ => rfl) ?_ ?_ hD ?_
    · rintro z x H1 e hz ⟨b, rfl, hb⟩ Q' q'
      have hz' := hall z hz
      exact ⟨_, rfl, b, z, rfl, LT.same hb e, fun c hc => by have := allLots_lt hz' c hc; omega, by have := allLots_llen hz'; omega, fun H2 e2 => q' H2 e2⟩
    · rintro z x H1 e hz _ Q' q'
      exact ⟨_, rfl, q' _ (Same.refl _)⟩
    · intro H1 e1 hH1
      generalize hps : (ls.map fun z => (Sum.inl (codeN z : Int) : Key)).zip (as.map V.ref) = ps at hH1
      have hk1 : ∀ k ∈ (mergeK [] ps).map (·.1), ∃ z ∈ ls, k = Sum.inl (codeN z : Int) := fun k hk => by
        rw [(merge_keys ps).2, ← hps, zip_fst (by rw [List.length_map]; exact hzl)] at hk
        obtain ⟨z, hz, e⟩ := List.mem_map.mp hk
        exact ⟨z, hz, e.symm⟩
      have hk2 : ∀ z ∈ ls, (Sum.inl (codeN z : Int) : Key) ∈ (mergeK [] ps).map (·.1) := fun z hz => by
        rw [(merge_keys ps).2, ← hps, zip_fst (by rw [List.length_map]; exact hzl)]
        exact List.mem_map.mpr ⟨z, hz, rfl⟩
      have hnd := (merge_keys ps).1
      have hvi := keys_vi (kvs := mergeK [] ps) fun k hk => let ⟨z, _, e⟩ := hk1 k hk; ⟨codeN z, e⟩
      -- the codes
      generalize hcs : ((mergeK [] ps).map fun p => keyN p.1) = cs at hvi
      have hcm : ∀ c, c ∈ cs ↔ c ∈ (ascN n ls).map codeN := fun c => by
        rw [← hcs, List.mem_map, List.mem_map]
        constructor
        · rintro ⟨p, hp, rfl⟩
          obtain ⟨z, hz, e⟩ := hk1 p.1 (List.mem_map.mpr ⟨p, hp, rfl⟩)
          exact ⟨z, asc_mem.mpr ⟨hall z hz, hz⟩, by rw [e]; rfl⟩
        · rintro ⟨z, hz, rfl⟩
          obtain ⟨p, hp, e⟩ := List.mem_map.mp (hk2 z (asc_mem.mp hz).2)
          exact ⟨p, hp, by rw [e]; rfl⟩
      have hcn : cs.Nodup := by
        rw [← hcs]
        have e2 : ((mergeK [] ps).map fun p => keyN p.1) = ((mergeK [] ps).map (·.1)).map keyN := by rw [List.map_map]; rfl
        rw [e2]
        rw [List.Nodup, List.pairwise_map]
        refine List.Pairwise.imp_of_mem ?_ hnd
        intro x y hx hy hne hxy
        obtain ⟨z, _, e3⟩ := hk1 x hx
        obtain ⟨z', _, e4⟩ := hk1 y hy
        rw [e3, e4] at hxy
        have : codeN z = codeN z' := hxy
        exact hne (by rw [e3, e4, this])
      have hperm : cs.Perm ((ascN n ls).map codeN) := (List.perm_ext_iff_of_nodup hcn ((asc_lt n ls).imp (fun h => Nat.ne_of_lt h))).mpr hcm
      have hcl : cs.length ≤ 32 := by
        rw [hperm.length_eq, List.length_map]
        exact Nat.le_trans (asc_len n ls) (Nat.le_trans (Nat.pow_le_pow_right (by decide) h5) (by decide))
      refine ⟨D, _, hH1, trivial, fun od => ?_⟩
      refine ⟨_, rfl, D, od, rfl, .inl ⟨_, upd_same, ?_⟩⟩
      refine fun D2 hD2 => lc_val (zs := cs) (I := fun c x => x = vi c) (fun _ => true) vi (walk_keys upd_same) (by rw [hvi]; exact pd_map cs) (by rw [hvi, List.length_map]; omega) (fun _ => rfl) (fun z x H1 e1 hz hI Q' q' => q' _ (Same.refl _)) ?_ hD2 ?_
      · rintro c x H3 e hz rfl _ Q' q'
        exact ⟨_, rfl, .inl ⟨_, rfl, q' _ (Same.refl _)⟩⟩
      · intro H3 e3 hH3
        rw [List.filter_eq_self.mpr (fun _ _ => rfl)] at hH3
        have hne : D2 ≠ D := fun e => by rw [e] at hD2; rw [upd_same] at hD2; cases hD2
        refine ⟨e3 _ _ upd_same, ?_⟩
        have e4 : Same H1 (upd H3 D (.dK (mergeK [] ps))) := fun b o hb => by
          by_cases q : b = D
          · subst q; rw [hH1] at hb; cases hb; exact upd_same
          · rw [upd_ne q]
            exact e3 b o (by rw [upd_ne q]; exact hb)
        refine ⟨D2, cs.map fun (c : Nat) => (c : Int), rfl, SqL.of (by rw [upd_ne hne, hH3, List.map_map]; rfl), by rw [List.length_map]; omega, fun ns' p hpm hsd hp => ?_⟩
        have hns : ns' = ((ascN n ls).map codeN).map fun (c : Nat) => (c : Int) := by
          refine List.Perm.eq_of_pairwise (le := fun (a b : Int) => a ≤ b) (fun a b _ _ h1 h2 => by omega) hsd ?_ (hpm.trans (hperm.map _))
          rw [List.pairwise_map]
          exact (asc_lt n ls).imp (fun h => by omega)
        have e5 := e4.trans (Same.new (o := .lst (ns'.map V.int)) hp)
        refine ⟨p, rfl, ⟨_, SqL.of upd_same⟩, ?_⟩
        refine fun D3 hD3 => lc_pure (zs := ascN n ls) (I := fun z x => x = vi (codeN z)) (fun _ => true) (fun z y H' => ∃ a : Addr, y = V.ref a ∧ LT K H' a z) lot_stay (walk_lst (SqL.of upd_same)) ?_ ?_ (fun _ => rfl) (fun z x H1 e1 hz hI Q' q' => q' _ (Same.refl _)) ?_ hD3 ?_
        · rw [hns, List.map_map, List.map_map]
          exact pd_map _
        · rw [hns]; simp
          have := asc_len n ls
          have h6 : 2 ^ n ≤ 2 ^ 5 := Nat.pow_le_pow_right (by decide) h5
          omega
        · rintro z x H4 e6 hz rfl _ Q' q'
          obtain ⟨hz1, hz2⟩ := asc_mem.mp hz
          obtain ⟨v, hv⟩ := merge_has ps (Sum.inl (codeN z : Int)) (by rw [← (merge_keys ps).2]; exact hk2 z hz2)
          have hm := merge_val ps _ _ hv
          rw [← hps] at hm
          obtain ⟨z', hz', ek, b, rfl, hb⟩ := zip_mem (lots_in hl) hm
          have ez : z = z' := code_inj hz1 (hall z' hz') (by injection ek with ek; omega)
          subst ez
          have hD4 := e6 _ _ (e5 _ _ hH1)
          exact ⟨_, rfl, _, rfl, D, _, rfl, .inl ⟨_, Sum.inl (codeN z : Int), .inl hD4, rfl, hv.symm⟩, q' _ _ (Same.refl _) ⟨b, rfl, LT.same hb ((e1.trans e5).trans e6)⟩⟩
        · intro H4 ys e6 hys hp4
          rw [List.filter_eq_self.mpr (fun _ _ => rfl)] at hp4
          obtain ⟨bs, rfl, hb⟩ := lots_out hp4
          exact q D3 bs H4 (e1.free (e5.free hD3)) ((e1.trans e5).trans e6) hys hb
end
end K72

-- K72Least
set_option Elab.async false
set_option linter.all false
set_option maxRecDepth 100000
set_option maxHeartbeats 4000000
/-! Lots as data (==); family.py: least_lots, is_lot_like. -/
namespace K72
open PySem PySem.Spec PyProof.Rows L2
/-! ### lots as data -/
def dL (l : List Nat) : PyData := .tuple (l.map fun (n : Nat) => PyData.int n)
def dLL (ls : List (List Nat)) : PyData := .tuple (ls.map dL)
theorem lay_ints : ∀ l : List Nat, PyData.canLayAll0 (l.map fun (n : Nat) => PyData.int n) = true
  | [] => rfl
  | a :: r => by
    show (PyData.canLay0 (.int a) && PyData.canLayAll0 (r.map fun (n : Nat) => PyData.int n)) = true
    rw [lay_ints r]; rfl
theorem depth_ints : ∀ l : List Nat, PyData.depthAll (l.map fun (n : Nat) => PyData.int n) = 0
  | [] => rfl
  | a :: r => by
    show max (PyData.depth (.int a)) (PyData.depthAll (r.map fun (n : Nat) => PyData.int n)) = 0
    rw [depth_ints r]; rfl
theorem depth_dL (l : List Nat) : (dL l).depth = 1 := by
  show PyData.depthAll _ + 1 = 1
  rw [depth_ints]
theorem shaped_dL (l : List Nat) : SeqAt.shaped (dL l) = true := by
  unfold SeqAt.shaped
  rw [depth_dL]
  show (PyData.canLayAll0 _ && _) = true
  rw [lay_ints]; rfl
theorem lay_lots : ∀ ls : List (List Nat), PyData.canLayAll0 (ls.map dL) = true
  | [] => rfl
  | a :: r => by
    show (PyData.canLayAll0 _ && PyData.canLayAll0 (r.map dL)) = true
    rw [lay_lots r, lay_ints]; rfl
theorem depth_lots : ∀ ls : List (List Nat), PyData.depthAll (ls.map dL) ≤ 1
  | [] => Nat.zero_le _
  | a :: r => by
    show max (dL a).depth (PyData.depthAll (r.map dL)) ≤ 1
    rw [depth_dL]
    exact Nat.max_le.mpr ⟨Nat.le_refl _, depth_lots r⟩
theorem shaped_dLL (ls : List (List Nat)) : SeqAt.shaped (dLL ls) = true := by
  unfold SeqAt.shaped
  have h : (dLL ls).depth ≤ 2 := Nat.succ_le_succ (depth_lots ls)
  rw [decide_eq_true (show (dLL ls).depth ≤ 64 by omega)]
  show (PyData.canLayAll0 _ && _) = true
  rw [lay_lots]; rfl
theorem eqv_ints : ∀ l m : List Nat, PyData.eqvAll (l.map fun (n : Nat) => PyData.int n) (m.map fun (n : Nat) => PyData.int n) = decide (l = m)
  | [], [] => rfl
  | [], _ :: _ => rfl
  | _ :: _, [] => rfl
  | a :: r, b :: t => by
    show (((a : Int) == (b : Int)) && PyData.eqvAll _ _) = _
    rw [eqv_ints r t]
    by_cases h : a = b
    · subst h; simp
    · have h2 : ¬ ((a : Int) = (b : Int)) := by omega
      rw [beq_eq_false_iff_ne.mpr h2]
      simp [h]
theorem eqv_dL (l m : List Nat) : PyData.eqv (dL l) (dL m) = decide (l = m) := eqv_ints l m
theorem eqv_lots : ∀ l m : List (List Nat), PyData.eqvAll (l.map dL) (m.map dL) = decide (l = m)
  | [], [] => rfl
  | [], _ :: _ => rfl
  | _ :: _, [] => rfl
  | a :: r, b :: t => by
    show (PyData.eqv (dL a) (dL b) && PyData.eqvAll _ _) = _
    rw [eqv_lots r t, eqv_dL]
    by_cases h : a = b
    · subst h; simp
    · simp [h]
theorem eqv_dLL (l m : List (List Nat)) : PyData.eqv (dLL l) (dLL m) = decide (l = m) := eqv_lots l m
theorem dp_ints {K : PySem.W.Frag} {H : Hp} : ∀ l : List Nat, DpAll K H (l.map vi) (l.map fun (n : Nat) => PyData.int n)
  | [] => .nil
  | _ :: r => .cons (.int _) (dp_ints r)
theorem dp_lot {K : PySem.W.Frag} {H : Hp} {a : Addr} {l : List Nat} (h : LT K H a l) : Dp K H (.ref a) (dL l) := .tup h (dp_ints l)
theorem dp_lots {K : PySem.W.Frag} {H : Hp} : ∀ {as : List Addr} {ls : List (List Nat)}, LLs K H as ls → DpAll K H (as.map V.ref) (ls.map dL)
  | _, _, .nil => .nil
  | _, _, .cons h t => .cons (dp_lot h) (dp_lots t)
/-- the scope of a comprehension that stands under a return -/
def retX : Stmt → Expr
  | .Return (some e) _ => e
  | _ => .Constant .none 0 ⟨0, 0, 0, 0⟩
def asgX : Stmt → Expr
  | .Assign _ e _ => e
  | _ => .Constant .none 0 ⟨0, 0, 0, 0⟩
def lcSc : Expr → Scope
  | .ListComp _ _ sc _ => sc
  | .DictComp _ _ _ sc _ => sc
  | _ => ⟨.function, [], false, false, []⟩
/-- a comprehension's scope within a block of the scope sc -/
def inSc (sc inner : Scope) : Scope := relabel inner { (default : Env) with scope := sc }
def bodyAt (s : Stmt) (i : Nat) : Stmt := (defBody s).getD i (.Pass ⟨0, 0, 0, 0⟩)
/-! ### the mirror -/
def leastN (n : Nat) (ls : List (List Nat)) : List (List Nat) := (ascN n ls).filter fun l => !(ascN n ls).any fun o => !decide (o = l) && holdsN l o
section
variable {P : Program} {w : World} {K : PySem.W.Frag} {mg : Str → Option Value} {base : Heap}
def spLeast (K : PySem.W.Frag) : Sp := fun vs H Q _ => ∃ (n : Nat) (a : Addr) (as : List Addr) (ls : List (List Nat)), vs = [.ref a] ∧ n ≤ 5 ∧ SqL K H a (as.map V.ref) ∧ LLs K H as ls ∧ (∀ l ∈ ls, l ∈ allLots n) ∧ ls.length < 1000 ∧
  ∀ p bs H', H p = none → Same H H' → H' p = some (.lst (bs.map V.ref)) → LLs K H' bs (leastN n ls) → Q (.ref p) H'
abbrev nm_least_lots : List Str := ["lots", "found", "lot", "other"]
theorem sc_least_lots : FnScope nm_least_lots ["lots"] (defScope s_least_lots) := ⟨rfl, rfl, rfl, by decide +kernel, rfl, by decide +kernel, by decide +kernel⟩
theorem r_least_lots (T : Ft K mg) : CalR P w K mg base 3 "least_lots" (spLeast K) := by
  refine cal_of T.g_least_lots T.f_least_lots sc_least_lots (fun _ _ _ _ _ _ us hl => match us, hl with | [_], _ => rfl) (fun vs H Q E h => ?_) fun cdv A outer s H vs Q E hr h => ?_
  · obtain ⟨_, _, _, _, rfl, _⟩ := h; rfl
  · obtain ⟨n, a, as, ls, rfl, h5, hS, hl, hall, hlen, q⟩ := h
    refine ⟨_, pss_cons (ps_set (i := 1) sc_least_lots.nd rfl (.inr rfl) (pe_cr (r_ascending T) hr (by decide) rfl (pa_cons (pv 0) pa_nil)))
      (pss_one (ps_ret (pe_lc (own := [("lot", 2)]) (g := gName 2) rfl sc_least_lots.nd (pi_list (pv 1)) (blkOk_by (N := nm_least_lots) (sc := defScope s_least_lots) (by decide +kernel)) (fun _ _ _ _ _ => pg_name (i := 2) sc_least_lots.nd rfl (.inr rfl))
        (fun _ _ _ _ _ => pts_one (pt_not (pt_val (pe_callB (cr_anyK K rfl) rfl T.z_any boot_any (pa_cons
          (pe_lc (own := [("other", 3)]) (g := gName 3) rfl sc_least_lots.nd (pi_lstK K (pv 1)) (blkOk_by (N := nm_least_lots) (sc := inSc (defScope s_least_lots) (lcSc (retX (bodyAt s_least_lots 1)))) (by decide +kernel)) (fun _ _ _ _ _ => pg_name (i := 3) sc_least_lots.nd rfl (.inl rfl))
            (fun _ _ _ _ _ => pts_nil) (fun _ _ _ _ _ => pe_and (pe_cmpR (op_neK K hr.units) (pv 3) (pv 2) (nomark _)) (pe_one (pe_cr (r_holds T) hr (by decide) rfl (pa_cons (pv 2) (pa_cons (pv 3) pa_nil)))))) pa_nil)))))
        (fun _ _ _ _ _ => pv 2)))), ?_⟩
    refine ⟨_, rfl, n, a, as, ls, rfl, h5, hS, hl, hall, hlen, fun p bs H1 hp e1 hp1 hb => ?_⟩
    have hbl : bs.length ≤ 32 := by
      rw [Pd.len hb]
      exact Nat.le_trans (asc_len n ls) (Nat.le_trans (Nat.pow_le_pow_right (by decide) h5) (by decide))
    have hzl : ∀ z ∈ ascN n ls, z.length ≤ 5 := fun z hz => Nat.le_trans (allLots_llen (asc_mem.mp hz).1) h5
    refine ⟨_, rfl, p, rfl, ⟨_, SqL.of hp1⟩, ?_⟩
    refine fun D hD => lc_pure (zs := ascN n ls) (I := fun z x => ∃ a : Addr, x = V.ref a ∧ LT K H1 a z) (fun l => !(ascN n ls).any fun o => !decide (o = l) && holdsN l o) (fun z y H' => ∃ a : Addr, y = V.ref a ∧ LT K H' a z) lot_stay
      (walk_lst (SqL.of hp1)) (lots_in hb) (by rw [List.length_map]; omega) (fun _ => rfl) ?_ ?_ hD ?_
    · rintro z x H2 e2 m ⟨c, rfl, hc⟩ Q' q'
      refine ⟨_, rfl, p, rfl, ⟨_, SqL.of (e2 _ _ hp1)⟩, ?_⟩
      refine fun D2 hD2 => lc_val (zs := ascN n ls) (I := fun z x => ∃ a : Addr, x = V.ref a ∧ LT K H1 a z) (fun _ => true) (fun o => V.bl (!decide (o = z) && holdsN z o)) (walk_lst (SqL.of (e2 _ _ hp1))) (lots_in hb) (by rw [List.length_map]; omega) (fun _ => rfl)
        (fun z x H1 e1 hz hI Q' q' => q' _ (Same.refl _)) ?_ hD2 ?_
      · rintro o x H3 e3 mo ⟨d, rfl, hd⟩ _ Q2 q2
        refine ⟨_, rfl, _, rfl, dL o, dL z, dp_lot (LT.same hd (e2.trans e3)), dp_lot (LT.same hc (e2.trans e3)), shaped_dL _, shaped_dL _, _, rfl, ?_⟩
        rw [eqv_dL]
        by_cases h : o = z
        · rw [decide_eq_true h]
          have := q2 H3 (Same.refl _)
          rw [decide_eq_true h] at this
          exact this
        · rw [decide_eq_false h]
          refine iteT ⟨_, rfl, _, rfl, c, d, z, o, rfl, LT.same hc (e2.trans e3), LT.same hd (e2.trans e3), by have := hzl o mo; omega, fun H4 e4 => ?_⟩
          have := q2 H4 e4
          rw [decide_eq_false h] at this
          exact this
      · intro H3 e3 hH3
        rw [List.filter_eq_self.mpr (fun _ _ => rfl)] at hH3
        refine ⟨D2, (ascN n ls).map fun o => !decide (o = z) && holdsN z o, rfl, SqL.of (by rw [hH3, List.map_map]; rfl), _, rfl, ?_⟩
        rw [List.any_map]
        exact q' _ e3
    · rintro z x H2 e2 m ⟨c, rfl, hc⟩ _ Q' q'
      exact ⟨_, rfl, q' _ _ (Same.refl _) ⟨c, rfl, LT.same hc e2⟩⟩
    · intro H2 ys e2 hys hp2
      obtain ⟨cs, rfl, hcs⟩ := lots_out hp2
      exact q D cs H2 (e1.free hD) (e1.trans e2) hys hcs
/-- a list or a tuple of copies -/
theorem ty_tup {K : PySem.W.Frag} {H : Hp} {a : Addr} {xs : List V} (h : SqT K H a xs) : TyX K H (.ref a) (.type "tuple") := by
  rcases h with (h | ⟨o, h⟩) | ⟨o, its, n, hk, hc, _⟩
  · exact .base (.tup h)
  · exact .fTuple h
  · exact .kTuple hk hc
def spLotLike (K : PySem.W.Frag) : Sp := fun vs H Q _ => ∃ (n : Nat) (a : Addr) (l : List Nat), vs = [vi n, .ref a] ∧ LT K H a l ∧ (∀ c ∈ l, c < n) ∧ l.length < 1000 ∧ ∀ H', Same H H' → Q (.bl true) H'
abbrev nm_is_lot_like : List Str := ["copies", "value", "copy"]
theorem sc_is_lot_like : FnScope nm_is_lot_like ["copies", "value"] (defScope s_is_lot_like) := ⟨rfl, rfl, rfl, by decide +kernel, rfl, by decide +kernel, by decide +kernel⟩
theorem r_is_lot_like (T : Ft K mg) : CalR P w K mg base 2 "is_lot_like" (spLotLike K) := by
  refine cal_of T.g_is_lot_like T.f_is_lot_like sc_is_lot_like (fun _ _ _ _ _ _ us hl => match us, hl with | [_, _], _ => rfl) (fun vs H Q E h => ?_) fun cdv A outer s H vs Q E hr h => ?_
  · obtain ⟨_, _, _, rfl, _⟩ := h; rfl
  · obtain ⟨n, a, l, rfl, hl, hlt, hlen, q⟩ := h
    refine ⟨_, pss_cons (ps_if (pt_not (pt_val (pe_callB call_isiT rfl T.z_isinstance boot_isinstance (pa_cons (pv 1) (pa_cons (pe_tup (pa_cons (pe_bltn (v := .ty "list") rfl T.z_list boot_list rfl) (pa_cons (pe_bltn (v := .ty "tuple") rfl T.z_tuple boot_tuple rfl) pa_nil))) pa_nil)))))
        (pss_one ps_never) pss_nil)
      (pss_one (ps_ret (pe_callB (cr_allK K rfl) rfl T.z_all boot_all (pa_cons
        (pe_lc (own := [("copy", 2)]) (g := gName 2) rfl sc_is_lot_like.nd (pi_tup (pv 1)) (blkOk_by (N := nm_is_lot_like) (sc := defScope s_is_lot_like) (by decide +kernel)) (fun _ _ _ _ _ => pg_name (i := 2) sc_is_lot_like.nd rfl (.inl rfl))
          (fun _ _ _ _ _ => pts_nil) (fun _ _ _ _ _ => pe_and (pe_cr (r_is_integer T) hr (by decide) rfl (pa_cons (pv 2) pa_nil)) (pe_one (pe_chain op_le op_lt pe_int (pv 2) (pv 0))))) pa_nil)))), ?_⟩
    refine ⟨_, rfl, line_of (by show 2 ≤ 100000; decide), fun p hp => ?_⟩
    have e0 : Same H (upd H p (.tup [.ty "list", .ty "tuple"])) := Same.new hp
    refine ⟨_, p, _, _, [.type "list", .type "tuple"], true, rfl, upd_same, .cons (.ty _) (.cons (.ty _) .nil), ty_tup (LT.same hl e0), ?_, true, rfl, ?_⟩
    · show (match PySem.W.kitOne K (.type "tuple") (.type "list") with | some true => some true | some false => PySem.W.kitAny K (.type "tuple") [.type "tuple"] | none => none) = some true
      rw [kit_ty (r := false) (by decide +kernel)]
      show (match PySem.W.kitOne K (.type "tuple") (.type "tuple") with | some true => some true | some false => PySem.W.kitAny K (.type "tuple") [] | none => none) = some true
      rw [kit_ty (r := true) (by decide +kernel)]
    · refine iteF ?_
      refine ⟨_, rfl, a, rfl, ⟨_, LT.same hl e0⟩, ?_⟩
      refine fun D hD => lc_val (zs := l) (I := fun c x => x = vi c) (fun _ => true) (fun c => V.bl true) (walk_tup (LT.same hl e0)) (pd_map l) (by rw [List.length_map]; omega) (fun _ => rfl) (fun z x H1 e1 hz hI Q' q' => q' _ (Same.refl _)) ?_ hD ?_
      · rintro c x H1 e hz rfl _ Q' q'
        refine ⟨_, rfl, _, rfl, true, rfl, iteT ⟨_, rfl, _, _, rfl, rfl, _, rfl, ?_⟩⟩
        refine iteTd (by show (0 : Int) ≤ (c : Int); omega) ⟨_, rfl, _, _, rfl, rfl, ?_⟩
        show Q' (V.bl (decide ((c : Int) < (n : Int)))) H1
        rw [decide_eq_true (by have := hlt c hz; omega)]
        exact q' _ (Same.refl _)
      · intro H1 e hH1
        rw [List.filter_eq_self.mpr (fun _ _ => rfl)] at hH1
        refine ⟨D, l.map fun c => true, rfl, SqL.of (by rw [hH1, List.map_map]; rfl), ?_⟩
        have : (l.map fun c => true).all id = true := by simp
        rw [this]
        exact q _ (e0.trans e)
end
end K72

-- K72Enum
set_option Elab.async false
set_option linter.all false
set_option maxRecDepth 100000
set_option maxHeartbeats 2000000
/-! enumerate over a tuple. -/
namespace K72
open PySem PySem.Spec PyProof.Rows L2
/-- enumerate of one value, whatever begins -/
theorem meets_enum1 {v : Value} {o : Obj} {Hh : Heap → Prop} (B : Begins v o Hh) :
    Meets (Builtin.«enumerate.__new__» ⟨[.type "enumerate", v], []⟩) (fun _ R s => Hh s.heap ∧
      R (.ok (.ret (.ref (s.heap.push o).objs.size))) { s with heap := (s.heap.push o).push { cls := .type "enumerate", data := .fields #[.none, .bool false, .ref s.heap.objs.size, rawInt 0, .none, .none] } }) :=
  .of_wp fun prog w A R s h => by
    obtain ⟨hp, g, d, tk, os⟩ := s
    obtain ⟨hh, h⟩ := h
    have sub := sub_enumerate
    have it : ∀ {A' : Around} {E Q : Value → Shared → Prop}, Q (.ref hp.objs.size) ⟨hp.push o, g, d, tk, os⟩ → wpAny (model prog w) A' (pyIter v) Q E ⟨hp, g, d, tk, os⟩ := fun q => B.iter prog w _ _ ⟨hp, g, d, tk, os⟩ _ hh q
    wp_walk using it
    refine wpAny_stack_any fun st => wpAny_pure ?_
    split
    · rename_i c _ _ _ _ _
      cases (c == Value.type "enumerate") <;> (wp_walk using it; exact ⟨_, rfl, h⟩)
    · wp_walk using it
      exact ⟨_, rfl, h⟩
theorem call_enum_tup {prog : Program} {w : World} {A : Around} {E : Value → Shared → Prop} {s : Shared} {t : Addr} {items : Array Value} {Q : Value → Shared → Prop} (ht : s.heap.IsTuple t items)
    (h : ∀ h', IsEnum h' (s.heap.objs.size + 1) s.heap.objs.size 0 .none → h'.IsTupleIter s.heap.objs.size t 0 → h'.objs.size = s.heap.objs.size + 2 → (∀ b o, s.heap.get? b = some o → h'.get? b = some o) → Q (.ref (s.heap.objs.size + 1)) { s with heap := h' }) :
    wpAny (model prog w) A (call (.type "enumerate") [.ref t]) Q E s := by
  have B := begins_tuple t items
  refine callType_new F.called_enumerate (by decide) (F.typeCall_enumerate_1 _) (F.newCall_enumerate_1 _) (fun obj => F.args_object_init_2 obj _) F.entry_enumerate_new (meets_enum1 B) ⟨ht, ?_⟩
  generalize ho : ({ cls := .type "tuple_iterator", data := .fields #[.ref t, .int 0 0] } : Obj) = o at B
  have sz : (s.heap.push o).objs.size = s.heap.objs.size + 1 := Heap.size_push ..
  have one : ∀ b x, s.heap.get? b = some x → (s.heap.push o).get? b = some x := fun b x e => Heap.get?_push_of_some _ e
  show _ ∧ _
  rw [sz]
  generalize hn : ({ cls := .type "enumerate", data := .fields #[.none, .bool false, .ref s.heap.objs.size, rawInt 0, .none, .none] } : Obj) = n
  have top : ((s.heap.push o).push n).get? (s.heap.objs.size + 1) = some n := by
    rw [← sz]; exact Heap.get?_push_size _ (by rw [← hn]; rfl)
  have en : IsEnum ((s.heap.push o).push n) (s.heap.objs.size + 1) s.heap.objs.size 0 .none := by rw [← hn] at top ⊢; exact top
  refine ⟨⟨n, top, by rw [← hn]⟩, h _ en ⟨o, Heap.get?_push_of_some _ (Heap.get?_push_size _ (by rw [← ho]; rfl)), by rw [← ho], by rw [← ho]; rfl⟩ (by rw [Heap.size_push, sz]) fun b x e => Heap.get?_push_of_some _ (one b x e)⟩
/-- the tuple at a, each item in a new pair -/
def Itet (K : PySem.W.Frag) (a : Addr) : It where
  go := fun i H => ∃ (xs : List V) (x : V), SqT K H a xs ∧ xs[i]? = some x
  yld := fun i H v H' => ∃ T x, v = .ref T ∧ H T = none ∧ H' = upd H T (.tup [.int (i : Nat), x]) ∧ ∀ xs, SqT K H a xs → xs[i]? = some x
  stop := fun i H => ∃ xs : List V, SqT K H a xs ∧ xs.length = i
/-- untracked records have turned -/
theorem inv_turned {X : Cx} {pins : List (Addr × Obj)} {σ : L2.St} {H : Hp} {s : Shared} {h' : Heap} {t' : Nat} {ch : List Addr} (I : Inv X pins σ H s) (k : ∀ b o, b ∉ ch → s.heap.get? b = some o → h'.get? b = some o) (hf : ∀ b ∈ ch, FpOk X pins H b) :
    Inv X pins σ H { s with heap := h', toks := t' } := by
  have out : ∀ b u, H b = some u → b ∉ ch := fun b u e z => by rw [(hf b z).1] at e; cases e
  refine I.step (g' := s.gens) (d' := s.drawn) (ch := ch) (fun b hb => ?_) (fun b o _ _ hc e _ => k b o hc e) (fun b o _ _ hc e _ => ⟨_, k b o hc e⟩) (fun b o _ _ n => n) (fun b o hc e => ⟨o, k b o hc e⟩)
    (fun _ _ e => e) (fun _ _ _ e => e) (fun b ps e => ⟨#[], by simpa using e⟩) (fun m hm => ?_) (fun b u e => ?_) I.bare
  · obtain ⟨_, f1, _, f3, f4, f5⟩ := hf b hb
    exact ⟨f3, f1, f4, f5⟩
  · obtain ⟨o, es, ep, ho, r⟩ := hm
    exact ⟨o, es, ep, k _ o (fun z => (hf _ z).2.1 rfl) ho, r⟩
  · refine (I.hok b u e).stay (fun c v hc q => k c v ?_ q) (fun _ q => q) fun _ _ q => q
    rcases hc with z | z
    · rw [z]; exact out b u e
    · exact out c _ z
theorem turn_enumT {P : Program} {w : World} {K : PySem.W.Frag} {elts : List Expr} {kk : Nat} {tpos : Pos} (a e it : Addr) :
    Turn P w K (.Tuple elts kk tpos) (Itet K a) [e, it] e (fun i h => (∃ old, IsEnum h e it (0 + (i : Int)) old) ∧ h.IsTupleIter it a i ∧ e ≠ it ∧ a ≠ it ∧ a ≠ e) where
  mem := by simp
  obj := fun i h st b hb => by
    obtain ⟨⟨old, he⟩, ⟨o, ho, hc, hd⟩, _⟩ := st
    rcases List.mem_cons.mp hb with z | z
    · rw [z]; exact ⟨_, he, fun v q => nomatch q⟩
    · rw [List.mem_singleton.mp z]; exact ⟨o, ho, fun v q => by rw [hd] at q; cases q⟩
  keep := fun i h h' st k => let ⟨⟨old, he⟩, hi, hne⟩ := st; ⟨⟨old, k e (by simp) _ he⟩, hi.at fun o q => k it (by simp) o q, hne⟩
  item := by
    intro X hP hw hK hc i pins s σ H E I hf st hg
    subst hP hw hK
    obtain ⟨he, hit, hne, hai, hae⟩ := st
    obtain ⟨xs, x, hq, hx⟩ := hg
    obtain ⟨its, rv, p, hz⟩ := I.tuple hq
    obtain ⟨u, hu, ru⟩ := rv.get hx
    have hh : X.A.in1.handled = none := I.ok.hd hc
    have W := GoesN.enumFrom (prog := X.prog) (w := X.w) (A := X.A) (elts := elts) (x1 := kk) (pos := tpos) 0 (Draws.tuple hh it a hai its.toArray) e hne (by simp [hne, Ne.symm hae]) (by simp)
    have hlt : i < its.toArray.size := by
      have := (List.getElem?_eq_some_iff.mp hu).1
      simpa using this
    refine wpAny_mono (W.goes i s (fun v s2 => ∃ x H', Inv X pins σ H' s2 ∧ RelV x v ∧ (Itet X.K a).yld i H x H' ∧ ((∃ old, IsEnum s2.heap e it (0 + ((i + 1 : Nat) : Int)) old) ∧ s2.heap.IsTupleIter it a (i + 1) ∧ e ≠ it ∧ a ≠ it ∧ a ≠ e) ∧ ∀ b ∈ [e, it], H' b = none) E hlt ⟨he, hit, p⟩
      fun v h' tk hY st' hk htk => ?_) (fun r s1 h => h) fun _ _ q => q
    obtain ⟨T, t, y, rfl, hT, hy, hTt⟩ := hY
    have ey : y = u := by
      have h1 : its[i]? = some y := by simpa using hy
      rw [h1] at hu; exact Option.some.inj hu
    subst ey
    have e0 : (0 : Int) + (i : Int) = (i : Int) := Int.zero_add _
    have new : ObjOk X.prog X.w (upd H T (.tup [.int (i : Nat), x])) h' T (.tup [.int (i : Nat), x]) :=
      ⟨by show 2 ≤ sizeLine; decide, [.int (0 + (i : Int)) t, y], .cons ⟨t, by rw [e0]⟩ (.cons ru .nil), hTt⟩
    have I1 := I.turnedNew (t' := tk) (ch := [e, it]) hk hf hT new
    refine ⟨.ref T, _, I1, rfl, ⟨T, x, rfl, I.hok.fresh hT, rfl, fun ys hy => by rw [I.tuple_inj hy hq]; exact hx⟩, ⟨st'.1, st'.2.1, hne, hai, hae⟩, fun b hb => ?_⟩
    have hlt2 : b < s.heap.objs.size := by
      rcases List.mem_cons.mp hb with z | z
      · rw [z]; obtain ⟨old, q⟩ := he; exact Heap.lt_size q
      · rw [List.mem_singleton.mp z]; obtain ⟨_, q, _⟩ := hit; exact Heap.lt_size q
    rw [upd_ne (Nat.ne_of_lt (Nat.lt_of_lt_of_le hlt2 hT))]
    exact (hf b hb).1
  done := by
    intro X hP hw hK hc i pins s σ H E I hf st hg
    subst hP hw hK
    obtain ⟨he, hit, hne, hai, hae⟩ := st
    obtain ⟨xs, hq, hx⟩ := hg
    obtain ⟨its, rv, p, hz⟩ := I.tuple hq
    subst hx
    have hh : X.A.in1.handled = none := I.ok.hd hc
    have W := GoesN.enumFrom (prog := X.prog) (w := X.w) (A := X.A) (elts := elts) (x1 := kk) (pos := tpos) 0 (Draws.tuple hh it a hai its.toArray) e hne (by simp [hne, Ne.symm hae]) (by simp)
    have hsz : its.toArray.size = xs.length := by rw [List.size_toArray, rv.length]
    rw [← hsz] at he hit
    exact wpAny_mono (W.stops s (fun s1 => Inv X pins σ H s1) E ⟨he, hit, p⟩ fun h' tk hk htk => inv_turned I hk hf) (fun r s1 h => h) fun _ _ q => q
  self := fun A i s Q E st h => let ⟨⟨_, he⟩, _⟩ := st; wpAny_pyIter_enum he h
def iEnumT (K : PySem.W.Frag) (ta : TA) : TI := fun σ H R => ta σ H fun vs H1 => ∃ a xs, vs = [.ref a] ∧ SqT K H1 a xs ∧ R (Itet K a) H1
theorem pi_enumT {X : Cx} {e : Expr} {ta : TA} {p pos tpos : Pos} {elts : List Expr} {kk : Nat} (hg : Gl X "enumerate") (hm : X.mg "enumerate" = none) (ha : PA X [e] ta) (hs : starEach [e] X.env = [(false, eval e X.env)] := by rfl) :
    PI X (.Tuple elts kk tpos) (.Call (.Name "enumerate" p) [e] [] pos) (iEnumT X.K ta) := by
  refine ⟨fun pins s σ H R I h => Call_ (ld_blt I hg hm boot_enumerate (PyProof.Rows.callWith_type1 (thn (ha.run pos pins s σ H _ I h) fun us s1 ⟨vs, H1, I1, r1, a, xs, ex, hq, q⟩ => ?_) hs rfl))⟩
  subst ex
  cases r1 with
  | cons r rr =>
    cases rr
    cases r
    obtain ⟨its, rv, p', hz⟩ := I1.tuple hq
    have hal : a < s1.heap.objs.size := p'.lt
    refine call_enum_tup p' fun h' he hit hsz hk => wpAny_pyIter_enum he ?_
    refine ⟨s1.heap.objs.size + 1, [s1.heap.objs.size + 1, s1.heap.objs.size], _, _, H1, rfl, I1.kept (h' := h') (t' := s1.toks) hk, turn_enumT a (s1.heap.objs.size + 1) s1.heap.objs.size, ⟨⟨.none, he⟩, hit, Nat.succ_ne_self _, Nat.ne_of_lt hal, Nat.ne_of_lt (Nat.lt_succ_of_lt hal)⟩, fun b hb => ?_, q⟩
    have hle : s1.heap.objs.size ≤ b := by
      rcases List.mem_cons.mp hb with z | z
      · rw [z]; exact Nat.le_succ _
      · rw [List.mem_singleton.mp z]; exact Nat.le_refl _
    exact I1.fpOk hle (I1.hok.fresh hle)
theorem pi_enumTK (K : PySem.W.Frag) {X : Cx} {e : Expr} {ta : TA} {p pos tpos : Pos} {elts : List Expr} {kk : Nat} (hg : Gl X "enumerate") (hm : X.mg "enumerate" = none) (ha : PA X [e] ta) (h : X.K = K := by rfl) (hs : starEach [e] X.env = [(false, eval e X.env)] := by rfl) :
    PI X (.Tuple elts kk tpos) (.Call (.Name "enumerate" p) [e] [] pos) (iEnumT K ta) := by subst h; exact pi_enumT hg hm ha hs
/-- a for over enumerate of a tuple -/
theorem for_enumT {K : PySem.W.Frag} {a : Addr} {H1 : Hp} {xs : List V} {g : TG} {tb : TS} {D : Ends} {σ : L2.St} (Pv : Nat → L2.St → Hp → Prop) (h0 : Pv 0 σ H1) (sm : ∀ i σ H, Pv i σ H → SqT K H a xs)
    (hs : ∀ i x σ H T, xs[i]? = some x → Pv i σ H → H T = none → g (.ref T) σ (upd H T (.tup [.int (i : Nat), x])) fun σ2 H2 => tb { D with nx := Pv (i + 1), ct := Pv (i + 1), bk := D.nx } σ2 H2) (hd : ∀ σ H, Pv xs.length σ H → D.nx σ H) :
    ∃ W : Nat → Nat → L2.St → Hp → Prop, (∃ m, W 0 m σ H1) ∧ ∀ i m σ H, W i m σ H →
      ((Itet K a).stop i H ∧ D.nx σ H) ∨ ((Itet K a).go i H ∧ ∃ N : L2.St → Hp → Prop, (∀ σ' H', N σ' H' → ∃ m', m' < m ∧ W (i + 1) m' σ' H') ∧ ∀ x H', (Itet K a).yld i H x H' → g x σ H' fun σ2 H2 => tb { D with nx := N, ct := N, bk := D.nx } σ2 H2) := by
  refine ⟨fun i m σ H => m = xs.length - i ∧ i ≤ xs.length ∧ Pv i σ H, ⟨xs.length, by simp, Nat.zero_le _, h0⟩, ?_⟩
  rintro i m σ H ⟨rfl, hi, p⟩
  have hq := sm _ _ _ p
  by_cases hlt : i < xs.length
  · refine .inr ⟨⟨xs, xs[i], hq, List.getElem?_eq_getElem hlt⟩, Pv (i + 1), fun σ' H' p' => ⟨xs.length - (i + 1), by omega, rfl, hlt, p'⟩, fun y H' hy => ?_⟩
    obtain ⟨T, x, rfl, hT, rfl, hall⟩ := hy
    exact hs i x σ H T (hall xs hq) p hT
  · have e : i = xs.length := by omega
    subst e
    exact .inl ⟨⟨xs, hq, rfl⟩, hd σ H p⟩
/-- a for over enumerate of a list -/
theorem for_enumL {K : PySem.W.Frag} {a : Addr} {H1 : Hp} {xs : List V} {g : TG} {tb : TS} {D : Ends} {σ : L2.St} (Pv : Nat → L2.St → Hp → Prop) (h0 : Pv 0 σ H1) (sm : ∀ i σ H, Pv i σ H → SqL K H a xs)
    (hs : ∀ i x σ H T, xs[i]? = some x → Pv i σ H → H T = none → g (.ref T) σ (upd H T (.tup [.int (i : Nat), x])) fun σ2 H2 => tb { D with nx := Pv (i + 1), ct := Pv (i + 1), bk := D.nx } σ2 H2) (hd : ∀ σ H, Pv xs.length σ H → D.nx σ H) :
    ∃ W : Nat → Nat → L2.St → Hp → Prop, (∃ m, W 0 m σ H1) ∧ ∀ i m σ H, W i m σ H →
      ((Ite K a).stop i H ∧ D.nx σ H) ∨ ((Ite K a).go i H ∧ ∃ N : L2.St → Hp → Prop, (∀ σ' H', N σ' H' → ∃ m', m' < m ∧ W (i + 1) m' σ' H') ∧ ∀ x H', (Ite K a).yld i H x H' → g x σ H' fun σ2 H2 => tb { D with nx := N, ct := N, bk := D.nx } σ2 H2) := by
  refine ⟨fun i m σ H => m = xs.length - i ∧ i ≤ xs.length ∧ Pv i σ H, ⟨xs.length, by simp, Nat.zero_le _, h0⟩, ?_⟩
  rintro i m σ H ⟨rfl, hi, p⟩
  have hq := sm _ _ _ p
  by_cases hlt : i < xs.length
  · refine .inr ⟨⟨xs, xs[i], hq, List.getElem?_eq_getElem hlt⟩, Pv (i + 1), fun σ' H' p' => ⟨xs.length - (i + 1), by omega, rfl, hlt, p'⟩, fun y H' hy => ?_⟩
    obtain ⟨T, x, rfl, hT, rfl, hall⟩ := hy
    exact hs i x σ H T (hall xs hq) p hT
  · have e : i = xs.length := by omega
    subst e
    exact .inl ⟨⟨xs, hq, Nat.le_refl _⟩, hd σ H p⟩
end K72

-- K72Fam
set_option Elab.async false
set_option linter.all false
set_option maxRecDepth 100000
set_option maxHeartbeats 4000000
/-! family.py: Family is made; contains. -/
namespace K72
open PySem PySem.Spec PyProof.Rows L2
/-! ### lots in order -/
theorem filt_mem (n : Nat) (p : Nat → Bool) : (List.range n).filter p ∈ allLots n := by
  induction n with
  | zero => simp [allLots, allLotsF]
  | succ n ih =>
    rw [allLots_succ, List.range_succ, List.filter_append, List.mem_append, List.mem_map]
    cases h : p n with
    | true => exact .inr ⟨_, ih, by simp [List.filter_cons, h]⟩
    | false => exact .inl (by simpa [List.filter_cons, h] using ih)
theorem filt_self {n : Nat} : ∀ {l : List Nat}, l ∈ allLots n → (List.range n).filter (fun c => l.contains c) = l := by
  induction n with
  | zero => intro l h; simp [allLots, allLotsF] at h; subst h; rfl
  | succ n ih =>
    intro l h
    rw [List.range_succ, List.filter_append]
    rw [allLots_succ, List.mem_append, List.mem_map] at h
    rcases h with h | ⟨m, h, rfl⟩
    · have h1 : l.contains n = false := by
        cases q : l.contains n with
        | false => rfl
        | true => have := allLots_lt h n (List.contains_iff_mem.mp q); omega
      rw [ih h, List.filter_cons, h1]
      simp
    · have e : (List.range n).filter (fun c => (m ++ [n]).contains c) = (List.range n).filter (fun c => m.contains c) := by
        apply List.filter_congr
        intro c hc
        have := List.mem_range.mp hc
        rw [Bool.eq_iff_iff, List.contains_iff_mem, List.contains_iff_mem, List.mem_append, List.mem_singleton]
        constructor
        · rintro (h | h)
          · exact h
          · omega
        · exact .inl
      rw [e, ih h]
      simp [List.filter_cons]
theorem lotOf_self {n : Nat} {l : List Nat} (h : l ∈ allLots n) : lotOf n l = l := filt_self h
/-! ### two fields -/
def f2 (a b : Str) (x y : V) : List (Str × V) := putF b y (putF a x [])
theorem f2_a {a b : Str} {x y : V} (h : ¬ a = b) : (f2 a b x y).lookup a = some x := by
  unfold f2
  rw [lookup_putF, if_neg h, lookup_putF, if_pos rfl]
theorem f2_b {a b : Str} {x y : V} : (f2 a b x y).lookup b = some y := by
  unfold f2
  rw [lookup_putF, if_pos rfl]
theorem f2_no {a b m : Str} {x y : V} (h1 : ¬ m = b) (h2 : ¬ m = a) : (f2 a b x y).lookup m = none := by
  unfold f2
  rw [lookup_putF, if_neg h1, lookup_putF, if_neg h2]
  rfl
theorem put1_len (a : Str) (x : V) : (putF a x []).length < 1000 := by show 1 < 1000; decide
/-! ### a family -/
def FamAt (K : PySem.W.Frag) (H : Hp) (x : Addr) (n : Nat) (ls : List (List Nat)) : Prop :=
  ∃ dx t as, H x = some (.ins (He.ga K "Family") dx (f2 "copies" "lots" (vi n) (.ref t))) ∧ SqT K H t (as.map V.ref) ∧ LLs K H as ls
theorem LLs.x {K : PySem.W.Frag} {H H' : Hp} {as : List Addr} {ls : List (List Nat)} (h : LLs K H as ls) (e : SameX H H') : LLs K H' as ls := Pd.imp (fun _ _ q => SameX.tup e q) h
theorem FamAt.x {K : PySem.W.Frag} {H H' : Hp} {x : Addr} {n : Nat} {ls : List (List Nat)} (h : FamAt K H x n ls) (e : SameX H H') : FamAt K H' x n ls :=
  let ⟨dx, t, as, h1, h2, h3⟩ := h
  ⟨dx, t, as, e _ _ h1 (fun _ q => by cases q), SameX.tup e h2, LLs.x h3 e⟩
theorem FamAt.same {K : PySem.W.Frag} {H H' : Hp} {x : Addr} {n : Nat} {ls : List (List Nat)} (h : FamAt K H x n ls) (e : Same H H') : FamAt K H' x n ls := h.x e.x
/-- lots of n copies, none empty -/
structure OkL (n : Nat) (ls : List (List Nat)) : Prop where
  n1 : 1 ≤ n
  n5 : n ≤ 5
  mem : ∀ l ∈ ls, l ∈ allLots n
  ne : ∀ l ∈ ls, l ≠ []
  some : ls ≠ []
  few : ls.length < 1000
section
variable {P : Program} {w : World} {K : PySem.W.Frag} {mg : Str → Option Value} {base : Heap}
def spFamInit (K : PySem.W.Frag) : Sp := fun vs H Q _ => ∃ (x dx t : Addr) (n : Nat) (as : List Addr) (ls : List (List Nat)), vs = [.ref x, vi n, .ref t] ∧ H x = some (.ins (He.ga K "Family") dx []) ∧ SqT K H t (as.map V.ref) ∧ LLs K H as ls ∧ OkL n ls ∧
  ∀ H', (∀ b o, H b = some o → b ≠ x → H' b = some o) → FamAt K H' x n (leastN n ls) → Q .non H'
abbrev nm_fam_init : List Str := ["self", "copies", "lots", "found", "place", "lot", "made"]
theorem sc_fam_init : FnScope nm_fam_init ["self", "copies", "lots"] (defScope s_Family_init) := ⟨rfl, rfl, rfl, by decide +kernel, rfl, by decide +kernel, by decide +kernel⟩
theorem body_fam_init (T : Ft K mg) (f : Addr) : Body P w K mg base "Family.__init__" s_Family_init f nm_fam_init 3 (spFamInit K) := by
  intro cdv A outer s H vs Q E hr h
  obtain ⟨x, dx, t, n, as, ls, rfl, hx, ht, hl, ok, q⟩ := h
  have hasl : as.length < 1000 := by rw [Pd.len hl]; exact ok.few
  have has0 : as.length ≠ 0 := by
    rw [Pd.len hl]
    exact fun e => ok.some (List.eq_nil_of_length_eq_zero e)
  refine ⟨_, pss_cons (ps_expr (pe_cr (r_check_number T) hr (by decide) rfl (pa_cons pe_str (pa_cons (pv 1) (pa_cons pe_int (pa_cons (pe_gc rfl T.i_MOST_COPIES) pa_nil))))))
    (pss_cons (ps_if (pt_cmpR op_eq (pe_callB (call_lenK K) rfl T.z_len boot_len (pa_cons (pv 2) pa_nil)) pe_int (nomark _)) (pss_one ps_never) pss_nil)
    (pss_cons (ps_set (i := 3) sc_fam_init.nd rfl (.inl rfl) (pe_lst pa_nil))
    (pss_cons (ps_for PassesOwn.never rfl (pi_enumT rfl T.z_enumerate (pa_cons (pv 2) pa_nil)) (pg_tup rfl (pgs_cons (pg_name (i := 4) sc_fam_init.nd rfl (.inl rfl)) (pgs_cons (pg_name (i := 5) sc_fam_init.nd rfl (.inl rfl)) pgs_nil)))
      (pss_cons (ps_set (i := 6) sc_fam_init.nd rfl (.inl rfl) (pe_cr (r_lot_of T) hr (by decide) rfl (pa_cons (pv 1) (pa_cons (pv 5) pa_nil))))
      (pss_cons (ps_if (pt_cmpR op_eq (pe_callB (call_lenK K) rfl T.z_len boot_len (pa_cons (pv 6) pa_nil)) pe_int (nomark _)) (pss_one ps_never) pss_nil)
      (pss_one (ps_expr (pe_bm PySem.F.plainAttrs_list PySem.F.slot_list_append PySem.F.type_list_append mt_append (pv 3) (pa_cons (pv 6) pa_nil)))))))
    (pss_cons (ps_fld (pv 0) (pv 1) rfl)
    (pss_one (ps_fld (pv 0) (pe_callTy call_tuple_of rfl T.z_tuple boot_tuple (pa_cons (pe_cr (r_least_lots T) hr (by decide) rfl (pa_cons (pv 3) pa_nil)) pa_nil)) rfl)))))), ?_⟩
  have h1 := ok.n1
  have h5 := ok.n5
  refine ⟨_, rfl, _, _, _, _, n, some 1, some 8, rfl, rfl, rfl, rfl, by rintro _ ⟨⟩; omega, by rintro _ ⟨⟩; omega, ?_⟩
  refine ⟨_, rfl, t, _, rfl, .inr ht, rfl, _, rfl, ?_⟩
  refine iteFd (fun e => ?_) ?_
  · rw [List.length_map] at e
    injection e with e
    omega
  refine ⟨line_of (by show 0 ≤ 100000; decide), fun F hF => ?_⟩
  have e0 : Same H (upd H F (.lst [])) := Same.new hF
  have hxF : x ≠ F := ne_of_none hx hF
  refine ⟨_, rfl, t, _, rfl, Same.tup e0 ht, ?_⟩
  refine for_enumT (xs := as.map V.ref) (fun i σ H' => Same H H' ∧ ∃ bs v4 v5 v6, σ = [some (.ref x), some (vi n), some (.ref t), some (.ref F), v4, v5, v6] ∧ H' F = some (.lst (bs.map V.ref)) ∧ LLs K H' bs (ls.take i) ∧ bs.length ≤ i)
    ⟨e0, [], none, none, none, rfl, upd_same, .nil, Nat.le_refl _⟩ (fun i σ H' h => Same.tup h.1 ht) ?_ ?_
  · rintro i y σ H1 Ta hy ⟨e1, bs, v4, v5, v6, rfl, hF1, hb1, hbl⟩ hT
    rw [List.getElem?_map] at hy
    obtain ⟨a, ha, rfl⟩ := Option.map_eq_some_iff.mp hy
    obtain ⟨l, hli, hla⟩ : ∃ l, ls[i]? = some l ∧ LT K H a l := by
      obtain ⟨l, h1, h2⟩ := Pd.at (pd_swap hl) ha
      exact ⟨l, h1, h2⟩
    have hlm : l ∈ ls := List.mem_of_getElem? hli
    have hmem := ok.mem l hlm
    have hi : i < 1000 := by
      have := (List.getElem?_eq_some_iff.mp ha).1
      omega
    have e2 : Same H (upd H1 Ta (.tup [.int (i : Nat), .ref a])) := e1.trans (Same.new hT)
    refine ⟨Ta, _, rfl, SqT.of upd_same, rfl, _, _, rfl, _, _, rfl, rfl, ?_⟩
    refine ⟨_, rfl, _, rfl, n, a, l, rfl, h1, by omega, LT.same hla e2, allLots_lt hmem, by have := allLots_llen hmem; omega, fun p H2 hp e3 hp2 => ?_⟩
    rw [lotOf_self hmem] at hp2
    refine ⟨_, rfl, p, _, rfl, .inr (SqT.of hp2), rfl, _, rfl, ?_⟩
    refine iteFd (fun e => ?_) ?_
    · rw [List.length_map] at e
      injection e with e
      exact ok.ne l hlm (List.eq_nil_of_length_eq_zero (by omega))
    have eF2 : H2 F = some (.lst (bs.map V.ref)) := e3 _ _ (by rw [upd_ne (fun e => by rw [e] at hF1; rw [hT] at hF1; cases hF1)]; exact hF1)
    refine ⟨_, rfl, .inl ⟨rfl, _, SqL.of eF2⟩, _, rfl, F, _, _, rfl, rfl, eF2, line_lt (by rw [List.length_map]; omega), ?_⟩
    refine ⟨Same.mut (e2.trans e3) hF, bs ++ [p], _, _, _, rfl, by rw [upd_same, List.map_append]; rfl, ?_, by simp; omega⟩
    have e4 : SameX H1 (upd H2 F (.lst (bs.map V.ref ++ [V.ref p]))) := ((Same.new (o := .tup [.int (i : Nat), .ref a]) hT).trans e3).x.trans (SameX.lst eF2)
    have et : ls.take (i + 1) = ls.take i ++ [l] := by rw [List.take_add_one, hli]; rfl
    rw [et]
    exact Pd.snoc (LLs.x hb1 e4) (SameX.tup (SameX.lst eF2) (SqT.of hp2))
  · rintro σ H1 ⟨e1, bs, v4, v5, v6, rfl, hF1, hb1, hbl⟩
    rw [List.length_map, Pd.len hl, List.take_length] at hb1
    have hx1 := e1 _ _ hx
    refine ⟨_, rfl, _, rfl, x, _, dx, _, rfl, hx1, T.c_Family, T.n_Family_copies, (by show 0 < 1000; decide), ?_⟩
    have hF2 : upd H1 x (.ins (He.ga K "Family") dx (putF "copies" (vi n) [])) F = some (.lst (bs.map V.ref)) := by rw [upd_ne hxF.symm]; exact hF1
    have e2 : SameX H1 (upd H1 x (.ins (He.ga K "Family") dx (putF "copies" (vi n) []))) → True := fun _ => trivial
    have hb2 : LLs K (upd H1 x (.ins (He.ga K "Family") dx (putF "copies" (vi n) []))) bs ls := Pd.imp (fun a l h => by
      rcases h with (h | ⟨o, h⟩) | h
      · exact .inl (.inl (by rw [upd_ne (ne_of h hx1 (by intro z; cases z))]; exact h))
      · exact .inl (.inr ⟨o, by rw [upd_ne (ne_of h hx1 (by intro z; cases z))]; exact h⟩)
      · exact .inr h) hb1
    refine ⟨_, rfl, n, F, bs, ls, rfl, h5, SqL.of hF2, hb2, ok.mem, ok.few, fun p cs H2 hp e3 hp2 hc => ?_⟩
    refine ⟨p, _, rfl, .inl ⟨SqL.of hp2, fun tt htt => ?_⟩⟩
    have hxt : x ≠ tt := ne_of_none (e3 _ _ upd_same) htt
    refine ⟨_, rfl, x, _, dx, _, rfl, (by rw [upd_ne hxt]; exact e3 _ _ upd_same), T.c_Family, T.n_Family_lots, put1_len _ _, ?_⟩
    refine q _ (fun b o hb hbx => ?_) ⟨dx, tt, cs, upd_same, ?_, ?_⟩
    · rw [upd_ne hbx]
      exact (Same.new (o := .tup (cs.map V.ref)) htt) _ _ (e3 _ _ (by rw [upd_ne hbx]; exact e1 _ _ hb))
    · exact SqT.of (by rw [upd_ne hxt.symm]; exact upd_same)
    · refine Pd.imp (fun a l h => ?_) (LLs.same hc (Same.new (o := .tup (cs.map V.ref)) htt))
      have hx2 : upd H2 tt (.tup (cs.map V.ref)) x = some (.ins (He.ga K "Family") dx (putF "copies" (vi n) [])) := by rw [upd_ne hxt]; exact e3 _ _ upd_same
      rcases h with (h | ⟨o, h⟩) | h
      · exact .inl (.inl (by rw [upd_ne (ne_of h hx2 (by intro z; cases z))]; exact h))
      · exact .inl (.inr ⟨o, by rw [upd_ne (ne_of h hx2 (by intro z; cases z))]; exact h⟩)
      · exact .inr h
end
end K72

-- K72Fam2
set_option Elab.async false
set_option linter.all false
set_option maxRecDepth 100000
set_option maxHeartbeats 4000000
/-! family.py: Family(copies, *lots); contains, check_like, .. -/
namespace K72
open PySem PySem.Spec PyProof.Rows L2
section
variable {P : Program} {w : World} {K : PySem.W.Frag} {mg : Str → Option Value} {base : Heap} {k : Nat} {x qual : Str} {sp : Sp} {f C : Addr}
/-- what a def with two parameters and a star parameter asks -/
def spStar2 (sp : Sp) : Sp := fun vs H Q E => ∃ ws rest, vs = ws ++ rest ∧ ws.length = 2 ∧ rest.length ≤ sizeLine ∧ ∀ p, H p = none → sp (ws ++ [V.ref p]) (upd H p (.tup rest)) Q E
def spStar1 (sp : Sp) : Sp := fun vs H Q E => ∃ ws rest, vs = ws ++ rest ∧ ws.length = 1 ∧ rest.length ≤ sizeLine ∧ ∀ p, H p = none → sp (ws ++ [V.ref p]) (upd H p (.tup rest)) Q E
theorem fnr_star2 {st : Stmt} {N : List Str} {p1 p2 pv : Str} (F : ∃ fd, FunD K x qual (defArgs st) (defBody st) (defScope st) [] [] f fd) (S : FnScope N [p1, p2, pv] (defScope st))
    (h0 : ∀ (kV doc pm : Value) (an : Option Addr) (cdv ct : Value) a b, bindArgs (PySem.W.fnOf x qual (defArgs st) (defBody st) (defScope st) .none kV doc pm an cdv ct) ⟨[a, b], []⟩ = (newTuple [] >>= fun t => pure [(p1, a), (p2, b), (pv, t)]))
    (h1 : ∀ (kV doc pm : Value) (an : Option Addr) (cdv ct : Value) a b r rs, bindArgs (PySem.W.fnOf x qual (defArgs st) (defBody st) (defScope st) .none kV doc pm an cdv ct) ⟨a :: b :: r :: rs, []⟩ = (newTuple (r :: rs) >>= fun t => pure [(p1, a), (p2, b), (pv, t)]))
    (body : Body P w K mg base qual st f N k sp) : FnR P w K mg base CX0 (k + 1) f (spStar2 sp) := by
  obtain ⟨fd, oc, od, dV, kV, doc, pm, an, cdv, ct, osl, rfl, lk, hcd, hdV, _⟩ : ∃ fd, _ := let ⟨fd, F⟩ := F; ⟨fd, F.ex⟩
  obtain rfl : dV = .none := hdV.elim (fun h => h.2) fun h => absurd rfl h.1
  refine StX.fn_star (ps := [p1, p2]) lk hcd S StX.cxUp_none ?_ fun A outer s H vs Q E hr h => ?_
  · intro us rest hl
    exact StX.bind_star2 (B := fun l => bindArgs (PySem.W.fnOf x qual (defArgs st) (defBody st) (defScope st) .none kV doc pm an cdv ct) ⟨l, []⟩) (h0 kV doc pm an cdv ct) (h1 kV doc pm an cdv ct) us rest hl
  · obtain ⟨t, h1, h2⟩ := body cdv A outer s H vs Q E hr h
    exact ⟨t, h1.nox, h2⟩
theorem fnr_star1 {st : Stmt} {N : List Str} {p1 pv : Str} (F : ∃ fd, FunD K x qual (defArgs st) (defBody st) (defScope st) [] [] f fd) (S : FnScope N [p1, pv] (defScope st))
    (h0 : ∀ (kV doc pm : Value) (an : Option Addr) (cdv ct : Value) a, bindArgs (PySem.W.fnOf x qual (defArgs st) (defBody st) (defScope st) .none kV doc pm an cdv ct) ⟨[a], []⟩ = (newTuple [] >>= fun t => pure [(p1, a), (pv, t)]))
    (h1 : ∀ (kV doc pm : Value) (an : Option Addr) (cdv ct : Value) a r rs, bindArgs (PySem.W.fnOf x qual (defArgs st) (defBody st) (defScope st) .none kV doc pm an cdv ct) ⟨a :: r :: rs, []⟩ = (newTuple (r :: rs) >>= fun t => pure [(p1, a), (pv, t)]))
    (body : Body P w K mg base qual st f N k sp) : FnR P w K mg base CX0 (k + 1) f (spStar1 sp) := by
  obtain ⟨fd, oc, od, dV, kV, doc, pm, an, cdv, ct, osl, rfl, lk, hcd, hdV, _⟩ : ∃ fd, _ := let ⟨fd, F⟩ := F; ⟨fd, F.ex⟩
  obtain rfl : dV = .none := hdV.elim (fun h => h.2) fun h => absurd rfl h.1
  refine StX.fn_star (ps := [p1]) lk hcd S StX.cxUp_none ?_ fun A outer s H vs Q E hr h => ?_
  · intro us rest hl
    exact StX.bind_star1 (B := fun l => bindArgs (PySem.W.fnOf x qual (defArgs st) (defBody st) (defScope st) .none kV doc pm an cdv ct) ⟨l, []⟩) (h0 kV doc pm an cdv ct) (h1 kV doc pm an cdv ct) us rest hl
  · obtain ⟨t, h1, h2⟩ := body cdv A outer s H vs Q E hr h
    exact ⟨t, h1.nox, h2⟩
/-! ### Family -/
theorem mk_family (T : Ft K mg) : MakR P w K mg base 4 "Family" (He.ga K "Family") (spStar2 (spFamInit K)) :=
  ⟨_, T.m_Family, fnr_star2 T.f_Family_init sc_fam_init (fun _ _ _ _ _ _ _ _ => rfl) (fun _ _ _ _ _ _ _ _ _ _ => rfl) (body_fam_init T _), T.g_Family⟩
/-- what Family(n, *lots) gives -/
theorem fam_k {vs : List V} {H : Hp} {G : Addr → Hp → Prop} (h : ∃ (n : Nat) (as : List Addr) (ls : List (List Nat)), vs = vi n :: as.map V.ref ∧ LLs K H as ls ∧ OkL n ls ∧ ∀ x H2, H x = none → Same H H2 → FamAt K H2 x n (leastN n ls) → G x H2) :
    ∀ x dx, H x = none → H dx = none → dx ≠ x → spStar2 (spFamInit K) (V.ref x :: vs) (upd (upd H dx (.own x)) x (.ins (He.ga K "Family") dx [])) (fun v H2 => v = .non ∧ G x H2) E0 := by
  obtain ⟨n, as, ls, rfl, hl, ok, q⟩ := h
  intro x dx hx hdx hne
  refine ⟨[.ref x, vi n], as.map V.ref, rfl, rfl, ?_, fun p hp => ?_⟩
  · rw [List.length_map, Pd.len hl]
    have := ok.few
    exact line_of (by omega)
  · have e1 : Same H (upd (upd H dx (.own x)) x (.ins (He.ga K "Family") dx [])) := Same.mut (Same.new hdx) hx
    have e2 : Same H (upd (upd (upd H dx (.own x)) x (.ins (He.ga K "Family") dx [])) p (.tup (as.map V.ref))) := e1.trans (Same.new hp)
    refine ⟨x, dx, p, n, as, ls, rfl, ?_, SqT.of upd_same, LLs.same hl e2, ok, fun H' hk hf => ⟨rfl, q x H' hx (fun b o hb => hk b o (e2 b o hb) (fun z => by rw [z, hx] at hb; cases hb)) hf⟩⟩
    rw [upd_ne (ne_of_none upd_same hp)]
    exact upd_same
end
end K72

-- K72Ops
set_option Elab.async false
set_option linter.all false
set_option maxRecDepth 100000
set_option maxHeartbeats 2000000
/-! Operators, len and static methods of own classes. -/
namespace K72
open PySem PySem.Spec PyProof.Rows L2
section
variable {X : Cx} {k j : Nat} {C : Addr} {m : Str} {sp : Sp} {pins : List (Addr × Obj)} {σ : L2.St} {H : Hp} {s : Shared}
/-- the callee runs one C call below -/
theorem run_fn1 {f : Addr} {Q : VK} {us : List Value} {vs : List V} (F : FnR X.prog X.w X.K X.mg X.base CX0 k f sp) (hr : Room j X.A) (hk : k + 1 ≤ j) (I : Inv X pins σ H s) (r : Vals vs us) (h : sp vs H Q E0) :
    wpAny (model X.prog X.w) X.A.in1 (call (.ref f) us) (EP X pins σ Q) X.xe s :=
  wpAny_call (SlX.run_at F (hr.mono hk).in1 I.env0.in1 pass0 I r h)
/-- x op y, x of the class C, y of the class or an int -/
def rCmpI (C : Addr) (sp : Sp) : R2 := fun x y H Q => ∃ a dx fs, x = .ref a ∧ H a = some (.ins C dx fs) ∧ ((∃ b dy gs, y = .ref b ∧ H b = some (.ins C dy gs)) ∨ ∃ i : Int, y = .int i) ∧ sp [x, y] H Q E0
theorem op_cmpI {op : CmpOp} (hop : ∀ a b, compareOp op a b = richCompare op a b) (c : MetR X.prog X.w X.K X.mg X.base k C m sp) (hm : (cmpInfo op).2.1 = m) (hr : Room j X.A) (hk : k ≤ j) : OpR X (compareOp op) (rCmpI C sp) := by
  intro pins s σ H x y v u Q I rx ry h
  obtain ⟨f, hc, hM, F⟩ := c.ex
  obtain ⟨a, dx, fs, rfl, ha, hy, q⟩ := h
  cases (show v = Value.ref a from rx)
  obtain ⟨mA, J, _⟩ := ins_get I.hok ha
  obtain ⟨od, J, _⟩ := J.look
  obtain ⟨mm, hF⟩ := I.fr
  rw [hop]
  have fin : wpAny (model X.prog X.w) X.A (call (.ref f) [.ref a, u]) (PySem.W.CmpBack (EP X pins σ Q)) X.xe s := by
    refine wpAny_mono (wpAny_call (run_fnR (us := [.ref a, u]) (vs := [.ref a, y]) F (hr.mono hk) pass0 I (.cons rfl (.cons ry .nil)) q)) (fun w s' z => ?_) fun _ _ x => x
    obtain ⟨z', H', I', rz, qz⟩ := z
    exact SlX.cmpback rz ⟨z', H', I', rz, qz⟩
  rcases hy with ⟨b, dy, gs, rfl, hb⟩ | ⟨i, rfl⟩
  · cases (show u = Value.ref b from ry)
    obtain ⟨mB, J', _⟩ := ins_get I.hok hb
    obtain ⟨od', J', _⟩ := J'.look
    exact PySem.W.cmp_K (op := op) (tb := .ref C) hr.units0 hF I.ok.mod.kin J J'.type (by simp [PySem.W.notFirst]) (by rw [hm]; exact hM.at_) hM.fn fin
  · obtain ⟨t, rfl⟩ := (show ∃ t, u = Value.int i t from ry)
    exact PySem.W.cmp_K (op := op) (tb := .type "int") hr.units0 hF I.ok.mod.kin J (PySem.W.Looks.of_pure rfl) (by unfold PySem.W.notFirst; rw [show PySem.W.subIn X.K (.type "int") (.ref C) = some false from rfl]; simp) (by rw [hm]; exact hM.at_) hM.fn fin
/-- x op y, both of the class C -/
def rBinI (C : Addr) (sp : Sp) : R2 := fun x y H Q => ∃ a dx fs b dy gs, x = .ref a ∧ y = .ref b ∧ H a = some (.ins C dx fs) ∧ H b = some (.ins C dy gs) ∧ sp [x, y] H Q E0
theorem op_binI {op : Operator} (c : MetR X.prog X.w X.K X.mg X.base k C m sp) (hs : PySem.W.selfFirst X.K C = true) (hm : PySem.dunder op.info.2 = m) (hr : Room j X.A) (hk : k ≤ j) : OpR X (binaryOp op) (rBinI C sp) := by
  intro pins s σ H x y v u Q I rx ry h
  obtain ⟨f, hc, hM, F⟩ := c.ex
  obtain ⟨a, dx, fs, b, dy, gs, rfl, rfl, ha, hb, q⟩ := h
  cases (show v = Value.ref a from rx)
  cases (show u = Value.ref b from ry)
  obtain ⟨mA, J, _⟩ := ins_get I.hok ha
  obtain ⟨od, J, _⟩ := J.look
  obtain ⟨mB, J', _⟩ := ins_get I.hok hb
  obtain ⟨od', J', _⟩ := J'.look
  obtain ⟨mm, hF⟩ := I.fr
  refine PySem.W.binop_K hF I.ok.mod.kin J J'.type hs (by rw [hm]; exact hM.at_) hM.fn ?_
  refine wpAny_mono (wpAny_call (run_fnR (us := [.ref a, .ref b]) (vs := [.ref a, .ref b]) F (hr.mono hk) pass0 I (.cons rfl (.cons rfl .nil)) q)) (fun w s' z => ?_) fun _ _ x => x
  obtain ⟨z', H', I', rz, qz⟩ := z
  exact SlX.cmpback rz ⟨z', H', I', rz, qz⟩
/-- len(x), x of the class C -/
def rLenI (C : Addr) (sp : Sp) : List V → Hp → VK → Prop := fun xs H Q => ∃ a dx fs, xs = [.ref a] ∧ H a = some (.ins C dx fs) ∧ sp [.ref a] H (fun z H' => ∃ n : Nat, z = .int n ∧ n < 1000000 ∧ Q z H') E0
theorem call_lenI (c : MetR X.prog X.w X.K X.mg X.base k C "__len__" sp) (hr : Room j X.A) (hk : k + 1 ≤ j) : CallR X (.builtin "len") (rLenI C sp) := by
  intro pins s σ H xs us Q I r h
  obtain ⟨f, hc, hM, F⟩ := c.ex
  obtain ⟨a, dx, fs, rfl, ha, q⟩ := h
  obtain ⟨u, rfl, ru⟩ := r.one
  cases (show u = Value.ref a from ru)
  obtain ⟨mA, J, _⟩ := ins_get I.hok ha
  obtain ⟨od, J, _⟩ := J.look
  obtain ⟨mm, hF⟩ := I.fr
  refine PySem.W.len_K hF I.ok.mod.kin J hM.at_ hM.fn (wpAny_mono (run_fn1 (us := [.ref a]) (vs := [.ref a]) F hr hk I (.cons rfl .nil) q) (fun w s' z => ?_) fun _ _ x => x)
  obtain ⟨z', H', I', rz, n, rfl, hn, qz⟩ := z
  obtain ⟨t, rfl⟩ := (show ∃ t, w = Value.int n t from rz)
  exact ⟨⟨by omega, by omega⟩, .int n, H', I'.tok _, ⟨_, rfl⟩, qz⟩
/-- C.m(), a static method -/
theorem pe_sm0 {x : Str} {f p : Addr} {cp ap pos : Pos} {pl : Sem Bool} (F : FnR X.prog X.w X.K X.mg X.base CX0 k f sp) (hg : Gl X x) (hx : X.mg x = some (.ref C)) (hrd : PySem.W.readsIn X.K C (.type "type") = true ∧ PySem.W.specialIn X.K (.ref C) "__getattribute__" = some (some (.builtin "type.__getattribute__")))
    (hat : PySem.W.findCls X.K (.ref C) (.type "type") m = some (.get (.builtin "staticmethod.__get__") (.ref p) .none (.ref C)) ∧ ∃ rest, PySem.W.recIn X.K p "staticmethod" = some (.ref f :: rest)) (hkp : PySem.W.keepIn X.K (.ref f) = true) (hr : Room j X.A) (hk : k ≤ j) (hd : (x == ("__debug__" : Str)) = false := by decide)
    (ht : eval (.Call (.Attribute (.Name x cp) m ap) [] [] pos) X.env = (do
      let ov ← eval (.Name x cp) X.env
      standAt ap.atName
      let (f, first) ← holding [ov] (getMethod ov m pl)
      callWith pos f first (backTo pos (starEach [] X.env)) (backToKw pos (keywordEach [] X.env))) := by rfl) :
    PE X (.Call (.Attribute (.Name x cp) m ap) [] [] pos) (fun _ H Q => sp [] H Q E0) := by
  refine ⟨fun pins s σ H Q I h => PySem.W.methodCall_KW (pl := pl) (ld_glob I hg hx ?_ hd) ht⟩
  obtain ⟨rest, hp⟩ := hat.2
  refine PySem.W.method_cls I.kIn hrd.2 (PySem.W.cls_bind I.kIn hrd.1 hat.1 (wpAny_call (PySem.W.sm_get (s := { s with toks := s.toks + 1 }) I.kIn hp (PySem.W.handed_on rfl ?_))))
  have I1 : Inv X pins σ H { s with toks := s.toks + 1 } := I.tok _
  exact PySem.W.callWith_K0 (first := []) I1.kIn hkp (wpAny_call (run_fnR (us := []) (vs := []) F (hr.mono hk) pass0 I1 .nil h))
end
/-! ### object.__ne__ over an own __eq__ -/
theorem ifBoundB {M : Model} {A : Around} {E : Value → Shared → Prop} {s : Shared} {K : PySem.W.Frag} {x C : Addr} {ox : Obj} {od : Option Obj} {name : Str} {id T : String} {args : List Value} {Q : Option Value → Shared → Prop} (S : PySem.Slot T name id) (I : PySem.W.InstAt s.heap x ox C od) (Xk : K.In s.heap)
    (hs : PySem.W.findIn K (.ref C) name = some (some (.builtin id))) (h : wpAny M A (call (.builtin id) (.ref x :: args)) (fun v => Q (some v)) E s) : wpAny M A (callSpecialIfBound? (.ref x) name args) Q E s := by
  simp only [callSpecialIfBound?, bindSpecialIfBound?]
  refine wpAny_holding (wpAny_bind (wpAny_bind (wpAny_bind (I.type.here ((PySem.W.looks_findIn Xk hs).here ?_)))))
  have fin : wpAny M A (call (.builtin id) ([.ref x] ++ args) >>= fun v => pure (some v)) Q E s := wpAny_bind (wpAny_mono h (fun v s' h' => wpAny_pure h') fun _ _ h' => h')
  refine wpAny_bind (wpAny_askSetting (wpAny_ite ?_))
  rw [S.bind]
  split
  · exact wpAny_bind (wpAny_pure (wpAny_pure (by exact fin)))
  · exact wpAny_tryCatch (wpAny_bind (wpAny_pure (wpAny_pure (by exact fin))))
section
variable {X : Cx} {k j : Nat} {C : Addr} {sp : Sp}
theorem ne_body {A : Around} {E : Value → Shared → Prop} {s : Shared} {K : PySem.W.Frag} {x C f : Addr} {y : Value} {ox : Obj} {od : Option Obj} {prog : Program} {w : World} {Q : Fin → Shared → Prop} (hu : A.units < cLine) (I : PySem.W.InstAt s.heap x ox C od) (Xk : K.In s.heap)
    (hs : PySem.W.findIn K (.ref C) "__eq__" = some (some (.ref f))) (hf : PySem.W.isFn K (.ref f) = true)
    (h : wpAny (model prog w) A (call (.ref f) [.ref x, y]) (fun v s' => ∃ b, v = .bool b ∧ Q (.done (.ret (.bool (!b)))) s') E s) :
    wpAny (model prog w) A (Builtin.«object.__ne__» ⟨[.ref x, y], []⟩) Q E s := by
  obtain ⟨hp, g, d, tk, os⟩ := s
  unfold Builtin.«object.__ne__»
  repeat (first
    | with_reducible refine wpAny_cRoomFor hu ?_
    | (refine wpAny_bind (m := callSpecialIfBound? (.ref x) (Str.ofString "__eq__") [y])
        (PySem.W.ifBound_K Xk I hs hf (wpAny_mono h (fun r s' hr => by
          obtain ⟨b, rfl, hq⟩ := hr
          repeat (first | exact hq | exact wpAny_pure hq | exact wpAny_truthy_bool hq | (refine wpAny_bind (m := truthy (.bool _)) (wpAny_truthy_bool ?_)) | wp_step)) fun _ _ e => e)))
    | wp_step)
def rNeI (C : Addr) (sp : Sp) : R2 := fun x y H Q => ∃ a dx fs b dy gs, x = .ref a ∧ y = .ref b ∧ H a = some (.ins C dx fs) ∧ H b = some (.ins C dy gs) ∧ sp [x, y] H (fun z H' => ∃ r : Bool, z = .bl r ∧ Q (.bl (!r)) H') E0
theorem op_neI (c : MetR X.prog X.w X.K X.mg X.base k C "__eq__" sp) (hne : PySem.W.findIn X.K (.ref C) "__ne__" = some (some (.builtin "object.__ne__"))) (hob : PySem.W.mroIn X.K C (.type "object") = some true) (hr : Room j X.A) (hk : k + 1 ≤ j) : OpR X (compareOp .NotEq) (rNeI C sp) := by
  intro pins s σ H x y v u Q I rx ry h
  obtain ⟨f, hc, hM, F⟩ := c.ex
  obtain ⟨a, dx, fs, b, dy, gs, rfl, rfl, ha, hb, q⟩ := h
  cases (show v = Value.ref a from rx)
  cases (show u = Value.ref b from ry)
  obtain ⟨mA, J, _⟩ := ins_get I.hok ha
  obtain ⟨od, J, _⟩ := J.look
  obtain ⟨mB, J', _⟩ := ins_get I.hok hb
  obtain ⟨od', J', _⟩ := J'.look
  have hu1 : X.A.in1.units < cLine := (show Room k X.A.in1 from (hr.mono hk).in1).units0
  have one : wpAny (model X.prog X.w) X.A (tryCompare (.ref a) (cmpInfo .NotEq).2.1 (.ref b)) (fun r s' => ∃ v, r = some v ∧ EP X pins σ Q v s') X.xe s := by
    unfold tryCompare
    refine wpAny_bind (ifBoundB PySem.F.slot_object_ne J I.kIn hne (wpAny_call (codeAny_call_builtin PySem.F.slot_object_ne.plain PySem.F.cmpEntry_ne
      (PySem.W.check_slot PySem.F.cmpKind_ne PySem.F.cmpSplit_ne (J.type.andThen (PySem.W.looks_subIn (K := X.K) I.kIn hob)) (PySem.F.cmpArgs_ne _ _) (ne_body hu1 J I.kIn hM.at_ hM.fn (wpAny_mono (run_fn1 (us := [.ref a, .ref b]) (vs := [.ref a, .ref b]) F hr hk I (.cons rfl (.cons rfl .nil)) q) (fun w s' z => ?_) fun _ _ x => x))))))
    obtain ⟨z', H', I', rz, r, rfl, qz⟩ := z
    cases (show w = Value.bool r from rz)
    exact ⟨r, rfl, wpAny_pure ⟨_, rfl, .bl (!r), H', I', rfl, qz⟩⟩
  show wpAny (model X.prog X.w) X.A (richCompare .NotEq (.ref a) (.ref b)) (EP X pins σ Q) X.xe s
  unfold richCompare
  simp only [oneThing_ref]
  refine wpAny_holding (wpAny_bind (wpAny_cRoomFor hr.units0 ?_))
  refine wpAny_bind (J.type.here (wpAny_bind (J'.type.here ?_)))
  rw [show (Value.ref C != Value.ref C) = false from by simp]
  simp only [Bool.false_eq_true, if_false]
  refine wpAny_bind (wpAny_pure ?_)
  simp only [Bool.false_eq_true, if_false]
  refine wpAny_bind (wpAny_mono one (fun r s' z => ?_) fun _ _ e => e)
  obtain ⟨v, rfl, hq⟩ := z
  exact wpAny_pure hq
end
end K72

-- K72Fam3
set_option Elab.async false
set_option linter.all false
set_option maxRecDepth 100000
set_option maxHeartbeats 4000000
/-! family.py: contains, check_like, ==, |, wider, dual. -/
namespace K72
open PySem PySem.Spec PyProof.Rows L2
/-! ### the mirror -/
def containsN (ls : List (List Nat)) (lot : List Nat) : Bool := ls.any fun least => holdsN lot least
def dualLots (n : Nat) (ls : List (List Nat)) : List (List Nat) := (allLots n).filter fun l => !containsN ls (others n l)
def dualN (n : Nat) (ls : List (List Nat)) : List (List Nat) := leastN n (dualLots n ls)
theorem allLots_mono {n m : Nat} (h : n ≤ m) : ∀ {l : List Nat}, l ∈ allLots n → l ∈ allLots m := by
  induction h with
  | refl => exact fun h => h
  | step _ ih =>
    intro l hl
    rw [allLots_succ, List.mem_append]
    exact .inl (ih hl)
theorem holds_code : ∀ l ∈ allLots 5, ∀ o ∈ allLots 5, holdsN l o = true → o ≠ l → codeN o < codeN l := by decide +kernel
theorem least_some {n : Nat} {ls : List (List Nat)} (h5 : n ≤ 5) (hm : ∀ l ∈ ls, l ∈ allLots n) (hn : ls ≠ []) : leastN n ls ≠ [] := by
  have key : ∀ k l, l ∈ ls → codeN l = k → ∃ m, m ∈ leastN n ls := by
    intro k
    induction k using Nat.strongRecOn with
    | ind k ih =>
      intro l hl hk
      by_cases h : (ascN n ls).any (fun o => !decide (o = l) && holdsN l o) = true
      · obtain ⟨o, ho, h2⟩ := List.any_eq_true.mp h
        obtain ⟨h3, h4⟩ := Bool.and_eq_true_iff.mp h2
        have hne : o ≠ l := by simpa using h3
        obtain ⟨ho1, ho2⟩ := asc_mem.mp ho
        have := holds_code l (allLots_mono h5 (hm l hl)) o (allLots_mono h5 ho1) h4 hne
        exact ih (codeN o) (by omega) o ho2 rfl
      · exact ⟨l, List.mem_filter.mpr ⟨asc_mem.mpr ⟨hm l hl, hl⟩, by rw [Bool.not_eq_true] at h; rw [h]; rfl⟩⟩
  obtain ⟨l, hl⟩ := List.exists_mem_of_ne_nil ls hn
  obtain ⟨m, hm⟩ := key _ l hl rfl
  exact List.ne_nil_of_mem hm
theorem least_mem {n : Nat} {ls : List (List Nat)} {l : List Nat} (h : l ∈ leastN n ls) : l ∈ allLots n ∧ l ∈ ls := asc_mem.mp (List.mem_filter.mp h).1
theorem least_32 {n : Nat} {ls : List (List Nat)} (h5 : n ≤ 5) : (leastN n ls).length ≤ 32 :=
  Nat.le_trans (List.length_filter_le _ _) (Nat.le_trans (asc_len n ls) (Nat.le_trans (Nat.pow_le_pow_right (by decide) h5) (by decide)))
theorem OkL.least {n : Nat} {ls : List (List Nat)} (o : OkL n ls) : OkL n (leastN n ls) where
  n1 := o.n1
  n5 := o.n5
  mem := fun l h => (least_mem h).1
  ne := fun l h => o.ne l (least_mem h).2
  some := least_some o.n5 o.mem o.some
  few := Nat.lt_of_le_of_lt (least_32 o.n5) (by decide)
theorem others_range (n : Nat) : others n (List.range n) = [] := by
  unfold others lotOf
  rw [List.filter_eq_nil_iff]
  intro c hc
  simp [List.mem_range.mp hc]
theorem others_nil (n : Nat) : others n [] = List.range n := by
  unfold others lotOf
  rw [List.filter_eq_self]
  intro c hc
  simp
theorem OkL.dual {n : Nat} {ls : List (List Nat)} (o : OkL n ls) : OkL n (dualLots n ls) where
  n1 := o.n1
  n5 := o.n5
  mem := fun l h => (List.mem_filter.mp h).1
  ne := fun l h e => by
    subst e
    have h2 := (List.mem_filter.mp h).2
    rw [others_nil] at h2
    obtain ⟨l0, hl0⟩ := List.exists_mem_of_ne_nil ls o.some
    have : containsN ls (List.range n) = true := by
      refine List.any_eq_true.mpr ⟨l0, hl0, ?_⟩
      refine List.all_eq_true.mpr fun c hc => ?_
      have := allLots_lt (o.mem l0 hl0) c hc
      simpa using this
    rw [this] at h2
    cases h2
  some := by
    refine List.ne_nil_of_mem (a := List.range n) (List.mem_filter.mpr ⟨?_, ?_⟩)
    · have := filt_mem n (fun _ => true)
      rwa [List.filter_eq_self.mpr (fun _ _ => rfl)] at this
    · rw [others_range]
      have : containsN ls [] = false := by
        refine List.any_eq_false.mpr fun l hl => ?_
        obtain ⟨c, hc⟩ := List.exists_mem_of_ne_nil l (o.ne l hl)
        intro h
        have := List.all_eq_true.mp h c hc
        cases this
      rw [this]; rfl
  few := Nat.lt_of_le_of_lt (List.length_filter_le _ _) (by
    rw [allLots_len]
    exact Nat.lt_of_le_of_lt (Nat.pow_le_pow_right (by decide) o.n5) (by decide))
theorem OkL.app {n : Nat} {ls ms : List (List Nat)} (o : OkL n ls) (p : OkL n ms) (h : (ls ++ ms).length < 1000) : OkL n (ls ++ ms) where
  n1 := o.n1
  n5 := o.n5
  mem := fun l h => (List.mem_append.mp h).elim (o.mem l) (p.mem l)
  ne := fun l h => (List.mem_append.mp h).elim (o.ne l) (p.ne l)
  some := by simp [o.some]
  few := h
theorem OkL.wider {n : Nat} {ls : List (List Nat)} (o : OkL n ls) (h : n ≤ 4) : OkL (n + 1) ls where
  n1 := by have := o.n1; omega
  n5 := by omega
  mem := fun l h => allLots_mono (Nat.le_succ n) (o.mem l h)
  ne := o.ne
  some := o.some
  few := o.few
theorem others_lt (n : Nat) (l : List Nat) : ∀ c ∈ others n l, c < n := fun c h => List.mem_range.mp (List.mem_filter.mp h).1
theorem others_len (n : Nat) (l : List Nat) : (others n l).length ≤ n := by
  have := List.length_filter_le (fun c => !(lotOf n l).contains c) (List.range n)
  rw [List.length_range] at this
  exact this
theorem kit_self {K : PySem.W.Frag} {v : Value} : PySem.W.kitOne K v v = some true := by
  unfold PySem.W.kitOne
  rw [if_pos (beq_self_eq_true v)]
section
variable {P : Program} {w : World} {K : PySem.W.Frag} {mg : Str → Option Value} {base : Heap}
/-! ### contains -/
def spContains (K : PySem.W.Frag) : Sp := fun vs H Q _ => ∃ (x a : Addr) (n : Nat) (ls : List (List Nat)) (l : List Nat), vs = [.ref x, .ref a] ∧ FamAt K H x n ls ∧ OkL n ls ∧ LT K H a l ∧ ∀ H', Same H H' → Q (.bl (containsN ls l)) H'
abbrev nm_contains : List Str := ["self", "lot", "least"]
theorem sc_contains : FnScope nm_contains ["self", "lot"] (defScope s_Family_contains) := ⟨rfl, rfl, rfl, by decide +kernel, rfl, by decide +kernel, by decide +kernel⟩
theorem m_contains (T : Ft K mg) : MetR P w K mg base 2 (He.ga K "Family") "contains" (spContains K) := by
  refine met_of T.c_Family T.t_Family_contains T.f_Family_contains sc_contains (fun _ _ _ _ _ _ us hl => match us, hl with | [_, _], _ => rfl) (fun vs H Q E h => ?_) fun cdv A outer s H vs Q E hr h => ?_
  · obtain ⟨_, _, _, _, _, rfl, _⟩ := h; rfl
  · obtain ⟨x, a, n, ls, l, rfl, ⟨dx, t, as, hx, ht, hl⟩, ok, ha, q⟩ := h
    refine ⟨_, pss_one (ps_ret (pe_callB (cr_anyK K rfl) rfl T.z_any boot_any (pa_cons
        (pe_lc (own := [("least", 2)]) (g := gName 2) rfl sc_contains.nd (pi_tup (pe_fldK K (pv 0))) (blkOk_by (N := nm_contains) (sc := defScope s_Family_contains) (by decide +kernel)) (fun _ _ _ _ _ => pg_name (i := 2) sc_contains.nd rfl (.inl rfl))
          (fun _ _ _ _ _ => pts_nil) (fun _ _ _ _ _ => pe_cr (r_holds T) hr (by decide) rfl (pa_cons (pv 1) (pa_cons (pv 2) pa_nil)))) pa_nil))), ?_⟩
    have h5 := ok.n5
    refine ⟨_, rfl, x, _, dx, _, _, rfl, hx, T.c_Family, T.n_Family_lots, f2_b, t, rfl, ⟨_, ht⟩, ?_⟩
    refine fun D hD => lc_val (zs := ls) (I := fun z x => ∃ a : Addr, x = V.ref a ∧ LT K H a z) (fun _ => true) (fun c => V.bl (holdsN l c)) (walk_tup ht) (lots_in hl) (by rw [List.length_map, Pd.len hl]; have := ok.few; omega) (fun _ => rfl) (fun z x H1 e1 hz hI Q' q' => q' _ (Same.refl _)) ?_ hD ?_
    · rintro c x H1 e hz ⟨b, rfl, hb⟩ _ Q' q'
      have hm := allLots_llen (ok.mem c hz)
      exact ⟨_, rfl, _, rfl, a, b, l, c, rfl, LT.same ha e, LT.same hb e, by omega, q'⟩
    · intro H1 e hH1
      rw [List.filter_eq_self.mpr (fun _ _ => rfl)] at hH1
      refine ⟨D, ls.map fun c => holdsN l c, rfl, SqL.of (by rw [hH1, List.map_map]; rfl), ?_⟩
      rw [List.any_map]
      exact q _ e
/-! ### check_like, == -/
def spLike (K : PySem.W.Frag) : Sp := fun vs H Q _ => ∃ (x y : Addr) (n : Nat) (ls ms : List (List Nat)), vs = [.ref x, .ref y] ∧ FamAt K H x n ls ∧ FamAt K H y n ms ∧ ∀ v, Q v H
abbrev nm_like : List Str := ["self", "other"]
theorem sc_like : FnScope nm_like ["self", "other"] (defScope s_Family_check_like) := ⟨rfl, rfl, rfl, by decide +kernel, rfl, by decide +kernel, by decide +kernel⟩
theorem m_like (T : Ft K mg) : MetR P w K mg base 1 (He.ga K "Family") "check_like" (spLike K) := by
  refine met_of T.c_Family T.t_Family_check_like T.f_Family_check_like sc_like (fun _ _ _ _ _ _ us hl => match us, hl with | [_, _], _ => rfl) (fun vs H Q E h => ?_) fun cdv A outer s H vs Q E hr h => ?_
  · obtain ⟨_, _, _, _, _, rfl, _⟩ := h; rfl
  · obtain ⟨x, y, n, ls, ms, rfl, ⟨dx, t, as, hx, ht, hl⟩, ⟨dy, u, bs, hy, hu, hm⟩, q⟩ := h
    refine ⟨_, pss_one (ps_if (pt_cmpR op_ne (pe_fldK K (pv 0)) (pe_fldK K (pv 1)) (nomark _)) (pss_one ps_never) pss_nil), ?_⟩
    refine ⟨_, rfl, x, _, dx, _, _, rfl, hx, T.c_Family, T.n_Family_copies, f2_a (by decide), _, rfl, y, _, dy, _, _, rfl, hy, T.c_Family, T.n_Family_copies, f2_a (by decide), rfl, _, rfl, ?_⟩
    exact iteFb (by simp) (q _)
def spFamEq (K : PySem.W.Frag) : Sp := fun vs H Q _ => ∃ (x y : Addr) (n m : Nat) (ls ms : List (List Nat)), vs = [.ref x, .ref y] ∧ FamAt K H x n ls ∧ FamAt K H y m ms ∧ Q (.bl (decide (n = m) && decide (ls = ms))) H
abbrev nm_feq : List Str := ["self", "other"]
theorem sc_feq : FnScope nm_feq ["self", "other"] (defScope s_Family_eq) := ⟨rfl, rfl, rfl, by decide +kernel, rfl, by decide +kernel, by decide +kernel⟩
theorem m_feq (T : Ft K mg) : MetR P w K mg base 1 (He.ga K "Family") "__eq__" (spFamEq K) := by
  refine met_of T.c_Family T.t_Family_eq T.f_Family_eq sc_feq (fun _ _ _ _ _ _ us hl => match us, hl with | [_, _], _ => rfl) (fun vs H Q E h => ?_) fun cdv A outer s H vs Q E hr h => ?_
  · obtain ⟨_, _, _, _, _, _, rfl, _⟩ := h; rfl
  · obtain ⟨x, y, n, m, ls, ms, rfl, ⟨dx, t, as, hx, ht, hl⟩, ⟨dy, u, bs, hy, hu, hm⟩, q⟩ := h
    refine ⟨_, pss_cons (ps_if (pt_not (pt_val (pe_callB call_isi rfl T.z_isinstance boot_isinstance (pa_cons (pv 1) (pa_cons (pe_glob (v := .ref (He.ga K "Family")) rfl T.g_Family rfl) pa_nil))))) (pss_one ps_never) pss_nil)
      (pss_one (ps_ret (pe_and (pe_cmpR op_eq (pe_fldK K (pv 0)) (pe_fldK K (pv 1)) (nomark _)) (pe_one (pe_cmpR (op_eqD hr.units) (pe_fldK K (pv 0)) (pe_fldK K (pv 1)) (nomark _)))))), ?_⟩
    refine ⟨_, rfl, _, _, _, _, true, rfl, .own _, .base (T.ty_Family hy), kit_self, true, rfl, ?_⟩
    refine iteF ?_
    refine ⟨_, rfl, x, _, dx, _, _, rfl, hx, T.c_Family, T.n_Family_copies, f2_a (by decide), _, rfl, y, _, dy, _, _, rfl, hy, T.c_Family, T.n_Family_copies, f2_a (by decide), rfl, _, rfl, ?_⟩
    by_cases hnm : n = m
    · subst hnm
      refine iteTb (by simp) ?_
      refine ⟨_, rfl, x, _, dx, _, _, rfl, hx, T.c_Family, T.n_Family_lots, f2_b, _, rfl, y, _, dy, _, _, rfl, hy, T.c_Family, T.n_Family_lots, f2_b, dLL ls, dLL ms, .tup ht (dp_lots hl), .tup hu (dp_lots hm), shaped_dLL _, shaped_dLL _, ?_⟩
      rw [eqv_dLL]
      simpa using q
    · refine iteFb (by simp [vi]; omega) ?_
      rw [decide_eq_false hnm, Bool.false_and] at q
      exact q
/-! ### | -/
def spFamOr (K : PySem.W.Frag) : Sp := fun vs H Q _ => ∃ (x y : Addr) (n : Nat) (ls ms : List (List Nat)), vs = [.ref x, .ref y] ∧ FamAt K H x n ls ∧ OkL n ls ∧ FamAt K H y n ms ∧ OkL n ms ∧ (ls ++ ms).length < 1000 ∧
  ∀ p H', H p = none → Same H H' → FamAt K H' p n (leastN n (ls ++ ms)) → Q (.ref p) H'
abbrev nm_for : List Str := ["self", "other", "lots"]
theorem sc_for : FnScope nm_for ["self", "other"] (defScope s_Family_or) := ⟨rfl, rfl, rfl, by decide +kernel, rfl, by decide +kernel, by decide +kernel⟩
theorem m_for (T : Ft K mg) : MetR P w K mg base 6 (He.ga K "Family") "__or__" (spFamOr K) := by
  refine met_of T.c_Family T.t_Family_or T.f_Family_or sc_for (fun _ _ _ _ _ _ us hl => match us, hl with | [_, _], _ => rfl) (fun vs H Q E h => ?_) fun cdv A outer s H vs Q E hr h => ?_
  · obtain ⟨_, _, _, _, _, rfl, _⟩ := h; rfl
  · obtain ⟨x, y, n, ls, ms, rfl, fx, okx, fy, oky, hfew, q⟩ := h
    obtain ⟨dx, t, as, hx, ht, hl⟩ := id fx
    obtain ⟨dy, u, bs, hy, hu, hm⟩ := id fy
    refine ⟨_, pss_cons (ps_if (pt_not (pt_val (pe_callB call_isi rfl T.z_isinstance boot_isinstance (pa_cons (pv 1) (pa_cons (pe_glob (v := .ref (He.ga K "Family")) rfl T.g_Family rfl) pa_nil))))) (pss_one ps_never) pss_nil)
      (pss_cons (ps_expr (pe_mr (m_like T) hr (by decide) (pv 0) (pa_cons (pv 1) pa_nil)))
      (pss_cons (ps_set (i := 2) sc_for.nd rfl (.inl rfl) (pe_op (op_catK K) (pe_fldK K (pv 0)) (pe_fldK K (pv 1))))
      (pss_one (ps_ret (pe_krS (mk_family T) hr (by decide) rfl (pa_cons (pe_fldK K (pv 0)) (StX.pa_star (pv 2) pa_nil))))))), ?_⟩
    refine ⟨_, rfl, _, _, _, _, true, rfl, .own _, .base (T.ty_Family hy), kit_self, true, rfl, ?_⟩
    refine iteF ?_
    refine ⟨_, rfl, x, dx, _, rfl, hx, f2_no (by decide) (by decide), _, rfl, x, y, n, ls, ms, rfl, fx, fy, fun v => ?_⟩
    have h1 : (as.map V.ref).length < 1000 := by rw [List.length_map, Pd.len hl]; exact okx.few
    have h2 : (bs.map V.ref).length < 1000 := by rw [List.length_map, Pd.len hm]; exact oky.few
    have fin : ∀ (p : Addr) (cs : List Addr) H', Same H H' → SqT K H' p (cs.map V.ref) → LLs K H' cs (ls ++ ms) →
        (tKR (He.ga K "Family") (spStar2 (spFamInit K)) (tCons (tFld K (tVar 0) "copies") (StX.tStar K (tVar 2) tNil))) ((start nm_for [V.ref x, V.ref y]).set 2 (some (V.ref p))) H' Q := by
      intro p cs H' e hp hc
      refine ⟨_, rfl, x, _, dx, _, _, rfl, e _ _ hx, T.c_Family, T.n_Family_copies, f2_a (by decide), _, rfl, p, _, rfl, .inl hp, ?_⟩
      refine fam_k ⟨n, cs, ls ++ ms, by rw [List.append_nil], hc, okx.app oky hfew, fun z H2 hz e2 hf => q z H2 (e.free hz) (e.trans e2) hf⟩
    refine ⟨_, rfl, x, _, dx, _, _, rfl, hx, T.c_Family, T.n_Family_lots, f2_b, _, rfl, y, _, dy, _, _, rfl, hy, T.c_Family, T.n_Family_lots, f2_b, t, u, _, _, rfl, rfl, ht, hu, line_of (by omega), ?_, ?_, ?_⟩
    · intro e
      have : as = [] := by simpa using e
      subst this
      cases hl
      exact fin u bs H (Same.refl _) hu hm
    · intro _ e
      have : bs = [] := by simpa using e
      subst this
      cases hm
      exact fin t as H (Same.refl _) ht (by rw [List.append_nil]; exact hl)
    · intro _ _ p hp
      have e : Same H (upd H p (.tup (as.map V.ref ++ bs.map V.ref))) := Same.new hp
      exact fin p (as ++ bs) _ e (SqT.of (by rw [List.map_append]; exact upd_same)) (Pd.app (LLs.same hl e) (LLs.same hm e))
/-! ### wider, dual -/
def spWider (K : PySem.W.Frag) : Sp := fun vs H Q _ => ∃ (x : Addr) (n : Nat) (ls : List (List Nat)), vs = [.ref x] ∧ FamAt K H x n ls ∧ OkL n ls ∧ n ≤ 4 ∧ ∀ p H', H p = none → Same H H' → FamAt K H' p (n + 1) (leastN (n + 1) ls) → Q (.ref p) H'
abbrev nm_wider : List Str := ["self"]
theorem sc_wider : FnScope nm_wider ["self"] (defScope s_Family_wider) := ⟨rfl, rfl, rfl, by decide +kernel, rfl, by decide +kernel, by decide +kernel⟩
theorem m_wider (T : Ft K mg) : MetR P w K mg base 6 (He.ga K "Family") "wider" (spWider K) := by
  refine met_of T.c_Family T.t_Family_wider T.f_Family_wider sc_wider (fun _ _ _ _ _ _ us hl => match us, hl with | [_], _ => rfl) (fun vs H Q E h => ?_) fun cdv A outer s H vs Q E hr h => ?_
  · obtain ⟨_, _, _, rfl, _⟩ := h; rfl
  · obtain ⟨x, n, ls, rfl, ⟨dx, t, as, hx, ht, hl⟩, ok, h4, q⟩ := h
    refine ⟨_, pss_cons (ps_expr (pe_cr (r_check_number T) hr (by decide) rfl (pa_cons pe_str (pa_cons (pe_op op_add (pe_fldK K (pv 0)) pe_int) (pa_cons pe_int (pa_cons (pe_gc rfl T.i_MOST_COPIES) pa_nil))))))
      (pss_one (ps_ret (pe_krS (mk_family T) hr (by decide) rfl (pa_cons (pe_op op_add (pe_fldK K (pv 0)) pe_int) (StX.pa_star (pe_fldK K (pv 0)) pa_nil))))), ?_⟩
    refine ⟨_, rfl, x, _, dx, _, _, rfl, hx, T.c_Family, T.n_Family_copies, f2_a (by decide), _, _, rfl, rfl, _, _, _, _, (n + 1 : Nat), some 1, some 8, rfl, rfl, rfl, rfl, by rintro _ ⟨⟩; omega, by rintro _ ⟨⟩; omega, ?_⟩
    refine ⟨_, rfl, x, _, dx, _, _, rfl, hx, T.c_Family, T.n_Family_copies, f2_a (by decide), _, _, rfl, rfl, _, rfl, x, _, dx, _, _, rfl, hx, T.c_Family, T.n_Family_lots, f2_b, t, _, rfl, .inl ht, ?_⟩
    exact fam_k ⟨n + 1, as, ls, by rw [List.append_nil]; rfl, hl, ok.wider h4, fun z H2 hz e2 hf => q z H2 hz e2 hf⟩
def spDual (K : PySem.W.Frag) : Sp := fun vs H Q _ => ∃ (x : Addr) (n : Nat) (ls : List (List Nat)), vs = [.ref x] ∧ FamAt K H x n ls ∧ OkL n ls ∧ ∀ p H', H p = none → Same H H' → FamAt K H' p n (dualN n ls) → Q (.ref p) H'
abbrev nm_dual : List Str := ["self", "lots", "lot"]
theorem sc_dual : FnScope nm_dual ["self"] (defScope s_Family_dual) := ⟨rfl, rfl, rfl, by decide +kernel, rfl, by decide +kernel, by decide +kernel⟩
theorem m_dual (T : Ft K mg) : MetR P w K mg base 6 (He.ga K "Family") "dual" (spDual K) := by
  refine met_of T.c_Family T.t_Family_dual T.f_Family_dual sc_dual (fun _ _ _ _ _ _ us hl => match us, hl with | [_], _ => rfl) (fun vs H Q E h => ?_) fun cdv A outer s H vs Q E hr h => ?_
  · obtain ⟨_, _, _, rfl, _⟩ := h; rfl
  · obtain ⟨x, n, ls, rfl, fx, ok, q⟩ := h
    obtain ⟨dx, t, as, hx, ht, hl⟩ := id fx
    have h1 := ok.n1
    have h5 := ok.n5
    refine ⟨_, pss_cons (ps_setLc (i := 1) (own := [("lot", 2)]) (g := gName 2) rfl sc_dual.nd rfl rfl (sw_true rfl rfl rfl rfl) (pi_list (pe_cr (r_all_lots T) hr (by decide) rfl (pa_cons (pe_fldK K (pv 0)) pa_nil))) (blkOk_by (N := nm_dual) (sc := defScope s_Family_dual) (by decide +kernel)) (fun _ _ _ _ _ => pg_name (i := 2) sc_dual.nd rfl (.inl rfl))
          (fun _ _ _ _ _ => pts_one (pt_not (pt_val (pe_mr (m_contains T) hr (by decide) (pv 0) (pa_cons (pe_cr (r_others T) hr (by decide) rfl (pa_cons (pe_fldK K (pv 0)) (pa_cons (pv 2) pa_nil))) pa_nil))))) (fun _ _ _ _ _ => pv 2))
      (pss_one (ps_ret (pe_krS (mk_family T) hr (by decide) rfl (pa_cons (pe_fldK K (pv 0)) (StX.pa_star (pv 1) pa_nil))))), ?_⟩
    refine ⟨_, rfl, x, _, dx, _, _, rfl, hx, T.c_Family, T.n_Family_copies, f2_a (by decide), n, rfl, h1, by omega, fun p cs H1 hp e1 hp1 hc => ?_⟩
    refine ⟨p, rfl, ⟨_, SqL.of hp1⟩, ?_⟩
    have hal : cs.length ≤ 256 := by rw [Pd.len hc]; exact allLots_256 (by omega)
    refine fun D hD => lc_pure (zs := allLots n) (I := fun z x => ∃ a : Addr, x = V.ref a ∧ LT K H1 a z) (fun l => !containsN ls (others n l)) (fun z y H' => ∃ a : Addr, y = V.ref a ∧ LT K H' a z) lot_stay
      (walk_lst (SqL.of hp1)) (lots_in hc) (by rw [List.length_map]; omega) (fun _ => rfl) ?_ ?_ hD ?_
    · rintro z y H2 e2 m ⟨a, rfl, ha⟩ Q' q'
      have e12 := e1.trans e2
      have fx2 := fx.same e12
      have hmm := allLots_llen m
      refine ⟨_, rfl, x, dx, _, rfl, e12 _ _ hx, f2_no (by decide) (by decide), _, rfl, x, _, dx, _, _, rfl, e12 _ _ hx, T.c_Family, T.n_Family_copies, f2_a (by decide), _, rfl, n, a, z, rfl, h1, by omega, LT.same ha e2, allLots_lt m, by omega, fun o H3 ho e3 ho3 => ?_⟩
      refine ⟨x, o, n, ls, others n z, rfl, fx2.same e3, ok, SqT.of ho3, fun H4 e4 => ⟨_, rfl, q' _ (e3.trans e4)⟩⟩
    · rintro z y H2 e2 m ⟨a, rfl, ha⟩ _ Q' q'
      exact ⟨_, rfl, q' _ _ (Same.refl _) ⟨a, rfl, LT.same ha e2⟩⟩
    · intro H2 ys e2 hys hp2
      obtain ⟨bs, rfl, hb⟩ := lots_out hp2
      have e12 := e1.trans e2
      refine ⟨_, rfl, x, _, dx, _, _, rfl, e12 _ _ hx, T.c_Family, T.n_Family_copies, f2_a (by decide), _, rfl, D, _, rfl, .inr (SqL.of hys), ?_⟩
      exact fam_k ⟨n, bs, dualLots n ls, by rw [List.append_nil], hb, ok.dual, fun z H3 hz e3 hf => q z H3 (e12.free hz) (e12.trans e3) hf⟩
end
end K72

-- K72Votes
set_option Elab.async false
set_option linter.all false
set_option maxRecDepth 100000
set_option maxHeartbeats 4000000
/-! votes.py but for the search. -/
namespace K72
open PySem PySem.Spec PyProof.Rows L2
/-- sum(xs) of a tuple of ints -/
def rSumT (K : PySem.W.Frag) : List V → Hp → VK → Prop := fun vs H Q => ∃ (a : Addr) (ns : List Int), vs = [V.ref a] ∧ SqT K H a (ns.map V.int) ∧ Q (.int ns.sum) H
theorem cr_sumT {X : Cx} (hc : X.calm = true) : CallR X (.builtin "sum") (rSumT X.K) := by
  intro pins s σ H vs us Q I r h
  obtain ⟨a, ns, rfl, hs, q⟩ := h
  obtain ⟨its, rv, hl, _⟩ := I.tuple hs
  rw [Vals.ref1 r]
  have hi := rv.ints
  obtain ⟨xs, e⟩ := hi.allInts.items
  have hn : numsOf (intItems xs).toList = ns := by rw [← e]; exact hi.numsOf
  rw [nums_intItems] at hn
  have hl2 : s.heap.IsTuple a (intItems xs) := by rw [← e]; exact hl
  refine PySem.W.ktm_sumG (I.ok.hd hc) hl2 fun h' tk t' hk => ?_
  rw [preSum_eq, List.take_of_length_le (by simp), hn]
  exact ⟨.int _, H, I.kept hk, ⟨_, rfl⟩, q⟩
/-! ### the mirror -/
def sumV (vs : List Nat) (lot : List Nat) : Nat := (lot.map fun c => vs.getD c 0).sum
def vFamLots (q : Nat) (vs : List Nat) : List (List Nat) := (allLots vs.length).filter fun l => decide (q ≤ sumV vs l)
def vFam (q : Nat) (vs : List Nat) : List (List Nat) := leastN vs.length (vFamLots q vs)
def quotaFor (vs : List Nat) (inside outside : List (List Nat)) : Option Nat :=
  let q := 1 + (outside.map (sumV vs)).foldl max 0
  if inside.all fun l => decide (q ≤ sumV vs l) then some q else none
/-- votes that Votes takes -/
structure OkV (q : Nat) (vs : List Nat) : Prop where
  n1 : 1 ≤ vs.length
  n5 : vs.length ≤ 5
  le : ∀ v ∈ vs, v ≤ 1000
  q1 : 1 ≤ q
  qs : q ≤ vs.sum
def VotesAt (K : PySem.W.Frag) (H : Hp) (x : Addr) (q : Nat) (vs : List Nat) : Prop := ∃ dx t, H x = some (.ins (He.ga K "Votes") dx (f2 "quota" "votes" (vi q) (.ref t))) ∧ SqT K H t (vs.map vi)
theorem VotesAt.x {K : PySem.W.Frag} {H H' : Hp} {x : Addr} {q : Nat} {vs : List Nat} (h : VotesAt K H x q vs) (e : SameX H H') : VotesAt K H' x q vs :=
  let ⟨dx, t, h1, h2⟩ := h
  ⟨dx, t, e _ _ h1 (fun _ q => by cases q), SameX.tup e h2⟩
theorem VotesAt.same {K : PySem.W.Frag} {H H' : Hp} {x : Addr} {q : Nat} {vs : List Nat} (h : VotesAt K H x q vs) (e : Same H H') : VotesAt K H' x q vs := h.x e.x
theorem sumV_range (vs : List Nat) : sumV vs (List.range vs.length) = vs.sum := by
  unfold sumV
  congr 1
  apply List.ext_getElem
  · simp
  · intro i h1 h2
    simp [List.getD_eq_getElem?_getD, h2]
theorem range_mem (n : Nat) : List.range n ∈ allLots n := by
  have := filt_mem n (fun _ => true)
  rwa [List.filter_eq_self.mpr (fun _ _ => rfl)] at this
theorem OkV.lots {q : Nat} {vs : List Nat} (o : OkV q vs) : OkL vs.length (vFamLots q vs) where
  n1 := o.n1
  n5 := o.n5
  mem := fun l h => (List.mem_filter.mp h).1
  ne := fun l h e => by
    subst e
    have h2 := of_decide_eq_true (List.mem_filter.mp h).2
    have := o.q1
    simp [sumV] at h2
    omega
  some := List.ne_nil_of_mem (a := List.range vs.length) (List.mem_filter.mpr ⟨range_mem _, decide_eq_true (by rw [sumV_range]; exact o.qs)⟩)
  few := Nat.lt_of_le_of_lt (List.length_filter_le _ _) (by
    rw [allLots_len]
    exact Nat.lt_of_le_of_lt (Nat.pow_le_pow_right (by decide) o.n5) (by decide))
theorem sum_vi (vs : List Nat) : ∃ ns : List Int, vs.map vi = ns.map V.int ∧ ns.sum = (vs.sum : Nat) := ⟨vs.map fun (n : Nat) => (n : Int), by rw [List.map_map]; rfl, sum_cast vs⟩
section
variable {P : Program} {w : World} {K : PySem.W.Frag} {mg : Str → Option Value} {base : Heap}
theorem cr_sumTK (K : PySem.W.Frag) {X : Cx} (hc : X.calm = true) (h : X.K = K := by rfl) : CallR X (.builtin "sum") (rSumT K) := by subst h; exact cr_sumT hc
/-! ### votes_of -/
def spVotesOf (K : PySem.W.Frag) : Sp := fun vs H Q _ => ∃ (t a : Addr) (ws l : List Nat), vs = [.ref t, .ref a] ∧ SqT K H t (ws.map vi) ∧ LT K H a l ∧ (∀ c ∈ l, c < ws.length) ∧ l.length < 1000 ∧ ∀ H', Same H H' → Q (vi (sumV ws l)) H'
abbrev nm_votes_of : List Str := ["votes", "lot", "copy"]
theorem sc_votes_of : FnScope nm_votes_of ["votes", "lot"] (defScope s_votes_of) := ⟨rfl, rfl, rfl, by decide +kernel, rfl, by decide +kernel, by decide +kernel⟩
theorem at_vi {ws : List Nat} {c : Nat} (h : c < ws.length) : (ws.map vi)[c]? = some (vi (ws.getD c 0)) := by
  rw [List.getElem?_map, List.getElem?_eq_getElem h]
  simp [List.getD_eq_getElem?_getD, h]
theorem r_votes_of (T : Ft K mg) : CalR P w K mg base 1 "votes_of" (spVotesOf K) := by
  refine cal_of T.g_votes_of T.f_votes_of sc_votes_of (fun _ _ _ _ _ _ us hl => match us, hl with | [_, _], _ => rfl) (fun vs H Q E h => ?_) fun cdv A outer s H vs Q E hr h => ?_
  · obtain ⟨_, _, _, _, rfl, _⟩ := h; rfl
  · obtain ⟨t, a, ws, l, rfl, ht, hl, hlt, hlen, q⟩ := h
    refine ⟨_, pss_one (ps_ret (pe_callB (cr_sumK K rfl) rfl T.z_sum boot_sum (pa_cons
        (pe_lc (own := [("copy", 2)]) (g := gName 2) rfl sc_votes_of.nd (pi_tup (pv 1)) (blkOk_by (N := nm_votes_of) (sc := defScope s_votes_of) (by decide +kernel)) (fun _ _ _ _ _ => pg_name (i := 2) sc_votes_of.nd rfl (.inl rfl))
          (fun _ _ _ _ _ => pts_nil) (fun _ _ _ _ _ => pe_ix (ix_tupK K) (pv 0) (pv 2) (fun _ _ => rfl))) pa_nil))), ?_⟩
    refine ⟨_, rfl, a, rfl, ⟨_, hl⟩, ?_⟩
    refine fun D hD => lc_val (zs := l) (I := fun c x => x = vi c) (fun _ => true) (fun c => vi (ws.getD c 0)) (walk_tup hl) (pd_map l) (by rw [List.length_map]; omega) (fun _ => rfl) (fun z x H1 e1 hz hI Q' q' => q' _ (Same.refl _)) ?_ hD ?_
    · rintro c x H1 e hz rfl _ Q' q'
      exact ⟨_, rfl, _, rfl, t, _, _, _, rfl, rfl, Same.tup e ht, atI_nat (at_vi (hlt c hz)), q' _ (Same.refl _)⟩
    · intro H1 e hH1
      rw [List.filter_eq_self.mpr (fun _ _ => rfl)] at hH1
      refine ⟨D, (l.map fun c => ws.getD c 0).map fun (n : Nat) => (n : Int), rfl, SqL.of (by rw [hH1, List.map_map, List.map_map]; rfl), ?_⟩
      rw [sum_cast]
      exact q _ e
/-! ### Votes -/
def spVotesInit (K : PySem.W.Frag) : Sp := fun us H Q _ => ∃ (x dx t : Addr) (q : Nat) (vs : List Nat), us = [.ref x, vi q, .ref t] ∧ H x = some (.ins (He.ga K "Votes") dx []) ∧ SqT K H t (vs.map vi) ∧ OkV q vs ∧
  ∀ H', (∀ b o, H b = some o → b ≠ x → H' b = some o) → VotesAt K H' x q vs → Q .non H'
abbrev nm_votes_init : List Str := ["self", "quota", "votes", "vote"]
theorem sc_votes_init : FnScope nm_votes_init ["self", "quota", "votes"] (defScope s_Votes_init) := ⟨rfl, rfl, rfl, by decide +kernel, rfl, by decide +kernel, by decide +kernel⟩
theorem body_votes_init (T : Ft K mg) (f : Addr) : Body P w K mg base "Votes.__init__" s_Votes_init f nm_votes_init 2 (spVotesInit K) := by
  intro cdv A outer s H us Q E hr h
  obtain ⟨x, dx, t, q, vs, rfl, hx, ht, ok, hq⟩ := h
  refine ⟨_, pss_cons (ps_expr (pe_cr (r_check_number T) hr (by decide) rfl (pa_cons pe_str (pa_cons (pe_callB (call_lenK K) rfl T.z_len boot_len (pa_cons (pv 2) pa_nil)) (pa_cons pe_int (pa_cons (pe_gc rfl T.i_MOST_COPIES) pa_nil))))))
    (pss_cons (ps_for PassesOwn.never rfl (pi_tup (pv 2)) (pg_name (i := 3) sc_votes_init.nd rfl (.inl rfl))
      (pss_one (ps_expr (pe_cr (r_check_number T) hr (by decide) rfl (pa_cons pe_str (pa_cons (pv 3) (pa_cons pe_int (pa_cons (pe_gc rfl T.i_MOST_VOTE) pa_nil))))))))
    (pss_cons (ps_expr (pe_cr (r_check_number T) hr (by decide) rfl (pa_cons pe_str (pa_cons (pv 1) (pa_cons pe_int (pa_cons (pe_callB (cr_sumTK K rfl) rfl T.z_sum boot_sum (pa_cons (pv 2) pa_nil)) pa_nil))))))
    (pss_cons (ps_fld (pv 0) (pv 1) rfl)
    (pss_one (ps_fld (pv 0) (pe_callTy call_tuple_of rfl T.z_tuple boot_tuple (pa_cons (pv 2) pa_nil)) rfl))))), ?_⟩
  have n1 := ok.n1
  have n5 := ok.n5
  refine ⟨_, rfl, t, _, rfl, .inr ht, _, _, _, _, (vs.map vi).length, some 1, some 8, rfl, rfl, rfl, rfl, by rintro _ ⟨⟩; simp; omega, by rintro _ ⟨⟩; simp; omega, ?_⟩
  refine ⟨_, rfl, t, rfl, ⟨_, ht⟩, for_walk (walk_tup ht) (fun i σ H' => H' = H ∧ ∃ v, σ = [some (.ref x), some (vi q), some (.ref t), v]) ⟨rfl, none, rfl⟩ (fun i σ H' h => by rw [h.1]; exact Same.refl _) ?_ ?_⟩
  · rintro i y σ H' hy ⟨rfl, v, rfl⟩
    rw [List.getElem?_map] at hy
    obtain ⟨c, hc, rfl⟩ := Option.map_eq_some_iff.mp hy
    have := ok.le c (List.mem_of_getElem? hc)
    exact ⟨_, rfl, _, _, _, _, c, some 0, some 1000, rfl, rfl, rfl, rfl, by rintro _ ⟨⟩; omega, by rintro _ ⟨⟩; omega, rfl, _, rfl⟩
  · rintro σ H' ⟨rfl, v, rfl⟩
    obtain ⟨ns, e1, e2⟩ := sum_vi vs
    have hq1 := ok.q1
    have hqs := ok.qs
    refine ⟨_, rfl, _, rfl, t, ns, rfl, by rw [← e1]; exact ht, _, _, _, _, q, some 1, some ns.sum, rfl, rfl, rfl, rfl, by rintro _ ⟨⟩; omega, by rintro _ ⟨⟩; omega, ?_⟩
    refine ⟨_, rfl, _, rfl, x, _, dx, _, rfl, hx, T.c_Votes, T.n_Votes_quota, (by show 0 < 1000; decide), ?_⟩
    have ht2 : SqT K (upd H' x (.ins (He.ga K "Votes") dx (putF "quota" (vi q) []))) t (vs.map vi) := by
      rcases ht with (h | ⟨o, h⟩) | h
      · exact .inl (.inl (by rw [upd_ne (ne_of h hx (by intro z; cases z))]; exact h))
      · exact .inl (.inr ⟨o, by rw [upd_ne (ne_of h hx (by intro z; cases z))]; exact h⟩)
      · exact .inr h
    refine ⟨_, rfl, t, _, rfl, .inr ⟨ht2, ?_⟩⟩
    refine ⟨_, rfl, x, _, dx, _, rfl, upd_same, T.c_Votes, T.n_Votes_votes, put1_len _ _, ?_⟩
    refine hq _ (fun b o hb hbx => by rw [upd_ne hbx, upd_ne hbx]; exact hb) ⟨dx, t, upd_same, ?_⟩
    rcases ht with (h | ⟨o, h⟩) | h
    · exact .inl (.inl (by rw [upd_ne (ne_of h hx (by intro z; cases z)), upd_ne (ne_of h hx (by intro z; cases z))]; exact h))
    · exact .inl (.inr ⟨o, by rw [upd_ne (ne_of h hx (by intro z; cases z)), upd_ne (ne_of h hx (by intro z; cases z))]; exact h⟩)
    · exact .inr h
theorem mk_votes (T : Ft K mg) : MakR P w K mg base 3 "Votes" (He.ga K "Votes") (spStar2 (spVotesInit K)) :=
  ⟨_, T.m_Votes, fnr_star2 T.f_Votes_init sc_votes_init (fun _ _ _ _ _ _ _ _ => rfl) (fun _ _ _ _ _ _ _ _ _ _ => rfl) (body_votes_init T _), T.g_Votes⟩
theorem votes_k {us : List V} {H : Hp} {G : Addr → Hp → Prop} (h : ∃ (q : Nat) (vs : List Nat), us = vi q :: vs.map vi ∧ OkV q vs ∧ ∀ x H2, H x = none → Same H H2 → VotesAt K H2 x q vs → G x H2) :
    ∀ x dx, H x = none → H dx = none → dx ≠ x → spStar2 (spVotesInit K) (V.ref x :: us) (upd (upd H dx (.own x)) x (.ins (He.ga K "Votes") dx [])) (fun v H2 => v = .non ∧ G x H2) E0 := by
  obtain ⟨q, vs, rfl, ok, hq⟩ := h
  intro x dx hx hdx hne
  refine ⟨[.ref x, vi q], vs.map vi, rfl, rfl, ?_, fun p hp => ?_⟩
  · rw [List.length_map]
    have := ok.n5
    exact line_of (by omega)
  · have e1 : Same H (upd (upd H dx (.own x)) x (.ins (He.ga K "Votes") dx [])) := Same.mut (Same.new hdx) hx
    have e2 : Same H (upd (upd (upd H dx (.own x)) x (.ins (He.ga K "Votes") dx [])) p (.tup (vs.map vi))) := e1.trans (Same.new hp)
    refine ⟨x, dx, p, q, vs, rfl, ?_, SqT.of upd_same, ok, fun H' hk hf => ⟨rfl, hq x H' hx (fun b o hb => hk b o (e2 b o hb) (fun z => by rw [z, hx] at hb; cases hb)) hf⟩⟩
    rw [upd_ne (ne_of_none upd_same hp)]
    exact upd_same
/-! ### Votes.family, Votes.dual -/
def spVFam (K : PySem.W.Frag) : Sp := fun us H Q _ => ∃ (x : Addr) (q : Nat) (vs : List Nat), us = [.ref x] ∧ VotesAt K H x q vs ∧ OkV q vs ∧ ∀ p H', H p = none → Same H H' → FamAt K H' p vs.length (vFam q vs) → Q (.ref p) H'
abbrev nm_vfam : List Str := ["self", "copies", "lots", "lot"]
theorem sc_vfam : FnScope nm_vfam ["self"] (defScope s_Votes_family) := ⟨rfl, rfl, rfl, by decide +kernel, rfl, by decide +kernel, by decide +kernel⟩
theorem m_vfam (T : Ft K mg) : MetR P w K mg base 6 (He.ga K "Votes") "family" (spVFam K) := by
  refine met_of T.c_Votes T.t_Votes_family T.f_Votes_family sc_vfam (fun _ _ _ _ _ _ us hl => match us, hl with | [_], _ => rfl) (fun vs H Q E h => ?_) fun cdv A outer s H us Q E hr h => ?_
  · obtain ⟨_, _, _, rfl, _⟩ := h; rfl
  · obtain ⟨x, q, vs, rfl, ⟨dx, t, hx, ht⟩, ok, hq⟩ := h
    have n1 := ok.n1
    have n5 := ok.n5
    refine ⟨_, pss_cons (ps_set (i := 1) sc_vfam.nd rfl (.inl rfl) (pe_callB (call_lenK K) rfl T.z_len boot_len (pa_cons (pe_fldK K (pv 0)) pa_nil)))
      (pss_cons (ps_setLc (i := 2) (own := [("lot", 3)]) (g := gName 3) rfl sc_vfam.nd rfl rfl (sw_true rfl rfl rfl rfl) (pi_list (pe_cr (r_all_lots T) hr (by decide) rfl (pa_cons (pv 1) pa_nil))) (blkOk_by (N := nm_vfam) (sc := defScope s_Votes_family) (by decide +kernel)) (fun _ _ _ _ _ => pg_name (i := 3) sc_vfam.nd rfl (.inl rfl))
          (fun _ _ _ _ _ => pts_one (pt_cmp (pc_ge (pe_cr (r_votes_of T) hr (by decide) rfl (pa_cons (pe_fldK K (pv 0)) (pa_cons (pv 3) pa_nil))) (pe_fldK K (pv 0))))) (fun _ _ _ _ _ => pv 3))
      (pss_one (ps_ret (pe_krS (mk_family T) hr (by decide) rfl (pa_cons (pv 1) (StX.pa_star (pv 2) pa_nil)))))), ?_⟩
    refine ⟨_, rfl, x, _, dx, _, _, rfl, hx, T.c_Votes, T.n_Votes_votes, f2_b, t, _, rfl, .inr ht, ?_⟩
    refine ⟨_, rfl, vs.length, by rw [List.length_map]; rfl, n1, by omega, fun p cs H1 hp e1 hp1 hc => ?_⟩
    refine ⟨p, rfl, ⟨_, SqL.of hp1⟩, ?_⟩
    have hal : cs.length ≤ 256 := by rw [Pd.len hc]; exact allLots_256 (by omega)
    refine fun D hD => lc_pure (zs := allLots vs.length) (I := fun z x => ∃ a : Addr, x = V.ref a ∧ LT K H1 a z) (fun l => decide (q ≤ sumV vs l)) (fun z y H' => ∃ a : Addr, y = V.ref a ∧ LT K H' a z) lot_stay
      (walk_lst (SqL.of hp1)) (lots_in hc) (by rw [List.length_map]; omega) (fun _ => rfl) ?_ ?_ hD ?_
    · rintro z y H2 e2 m ⟨a, rfl, ha⟩ Q' q'
      have e12 := e1.trans e2
      have hmm := allLots_llen m
      refine ⟨_, rfl, x, _, dx, _, _, rfl, e12 _ _ hx, T.c_Votes, T.n_Votes_votes, f2_b, _, rfl, t, a, vs, z, rfl, Same.tup e12 ht, LT.same ha e2, allLots_lt m, by omega, fun H3 e3 => ?_⟩
      refine ⟨_, rfl, x, _, dx, _, _, rfl, e3 _ _ (e12 _ _ hx), T.c_Votes, T.n_Votes_quota, f2_a (by decide), _, _, rfl, rfl, _, rfl, ?_⟩
      show Q' (decide ((q : Int) ≤ (sumV vs z : Int))) H3
      have e : decide ((q : Int) ≤ (sumV vs z : Int)) = decide (q ≤ sumV vs z) := by
        by_cases h4 : q ≤ sumV vs z
        · rw [decide_eq_true h4, decide_eq_true (by omega)]
        · rw [decide_eq_false h4, decide_eq_false (by omega)]
      rw [e]
      exact q' _ e3
    · rintro z y H2 e2 m ⟨a, rfl, ha⟩ _ Q' q'
      exact ⟨_, rfl, q' _ _ (Same.refl _) ⟨a, rfl, LT.same ha e2⟩⟩
    · intro H2 ys e2 hys hp2
      obtain ⟨bs, rfl, hb⟩ := lots_out hp2
      have e12 := e1.trans e2
      refine ⟨_, rfl, _, rfl, D, _, rfl, .inr (SqL.of hys), ?_⟩
      exact fam_k ⟨vs.length, bs, vFamLots q vs, by rw [List.append_nil, List.length_map]; rfl, hb, ok.lots, fun z H3 hz e3 hf => hq z H3 (e12.free hz) (e12.trans e3) hf⟩
def spVDual (K : PySem.W.Frag) : Sp := fun us H Q _ => ∃ (x : Addr) (q : Nat) (vs : List Nat), us = [.ref x] ∧ VotesAt K H x q vs ∧ OkV q vs ∧ ∀ p H', H p = none → Same H H' → VotesAt K H' p (vs.sum + 1 - q) vs → Q (.ref p) H'
abbrev nm_vdual : List Str := ["self"]
theorem sc_vdual : FnScope nm_vdual ["self"] (defScope s_Votes_dual) := ⟨rfl, rfl, rfl, by decide +kernel, rfl, by decide +kernel, by decide +kernel⟩
theorem OkV.dual {q : Nat} {vs : List Nat} (o : OkV q vs) : OkV (vs.sum + 1 - q) vs where
  n1 := o.n1
  n5 := o.n5
  le := o.le
  q1 := by have := o.qs; omega
  qs := by have := o.q1; omega
theorem m_vdual (T : Ft K mg) : MetR P w K mg base 5 (He.ga K "Votes") "dual" (spVDual K) := by
  refine met_of T.c_Votes T.t_Votes_dual T.f_Votes_dual sc_vdual (fun _ _ _ _ _ _ us hl => match us, hl with | [_], _ => rfl) (fun vs H Q E h => ?_) fun cdv A outer s H us Q E hr h => ?_
  · obtain ⟨_, _, _, rfl, _⟩ := h; rfl
  · obtain ⟨x, q, vs, rfl, ⟨dx, t, hx, ht⟩, ok, hq⟩ := h
    refine ⟨_, pss_one (ps_ret (pe_krS (mk_votes T) hr (by decide) rfl (pa_cons (pe_op op_sub (pe_op op_add (pe_callB (cr_sumTK K rfl) rfl T.z_sum boot_sum (pa_cons (pe_fldK K (pv 0)) pa_nil)) pe_int) (pe_fldK K (pv 0))) (StX.pa_star (pe_fldK K (pv 0)) pa_nil)))), ?_⟩
    obtain ⟨ns, e1, e2⟩ := sum_vi vs
    refine ⟨_, rfl, x, _, dx, _, _, rfl, hx, T.c_Votes, T.n_Votes_votes, f2_b, t, ns, rfl, by rw [← e1]; exact ht, _, _, rfl, rfl, _, rfl, x, _, dx, _, _, rfl, hx, T.c_Votes, T.n_Votes_quota, f2_a (by decide), _, _, rfl, rfl, ?_⟩
    refine ⟨_, rfl, x, _, dx, _, _, rfl, hx, T.c_Votes, T.n_Votes_votes, f2_b, t, _, rfl, .inl ht, ?_⟩
    have hqs := ok.qs
    refine votes_k ⟨vs.sum + 1 - q, vs, ?_, ok.dual, fun z H2 hz e2 hf => hq z H2 hz e2 hf⟩
    rw [List.append_nil, e2]
    have : ((vs.sum : Nat) : Int) + 1 - (q : Int) = ((vs.sum + 1 - q : Nat) : Int) := by omega
    rw [show vi (vs.sum + 1 - q) = V.int ((vs.sum + 1 - q : Nat) : Int) from rfl, ← this]
end
end K72

-- K72Quota
set_option Elab.async false
set_option linter.all false
set_option maxRecDepth 100000
set_option maxHeartbeats 4000000
/-! votes.py: quota_for. -/
namespace K72
open PySem PySem.Spec PyProof.Rows L2
theorem foldl_max_le {l : List Nat} : ∀ {a : Nat}, a ≤ l.foldl max a ∧ ∀ x ∈ l, x ≤ l.foldl max a := by
  induction l with
  | nil => intro a; exact ⟨Nat.le_refl _, fun x h => nomatch h⟩
  | cons y r ih =>
    intro a
    obtain ⟨h1, h2⟩ := ih (a := max a y)
    refine ⟨Nat.le_trans (Nat.le_max_left a y) h1, fun x hx => ?_⟩
    rcases List.mem_cons.mp hx with e | e
    · rw [e]; exact Nat.le_trans (Nat.le_max_right a y) h1
    · exact h2 x e
theorem foldl_max_mem {l : List Nat} : ∀ {a : Nat}, l.foldl max a = a ∨ l.foldl max a ∈ l := by
  induction l with
  | nil => intro a; exact .inl rfl
  | cons y r ih =>
    intro a
    rcases ih (a := max a y) with h | h
    · by_cases q : a ≤ y
      · rw [Nat.max_eq_right q] at h
        refine .inr ?_
        rw [show (y :: r).foldl max a = r.foldl max (max a y) from rfl, Nat.max_eq_right q, h]
        exact List.mem_cons_self
      · rw [Nat.max_eq_left (by omega)] at h
        refine .inl ?_
        rw [show (y :: r).foldl max a = r.foldl max (max a y) from rfl, Nat.max_eq_left (by omega), h]
    · exact .inr (List.mem_cons_of_mem _ h)
theorem max_is {l : List Nat} {m : Nat} (hm : m ∈ l) (hy : ∀ y ∈ l, y ≤ m) : l.foldl max 0 = m := by
  apply Nat.le_antisymm
  · rcases foldl_max_mem (l := l) (a := 0) with h | h
    · omega
    · exact hy _ h
  · exact (foldl_max_le (l := l) (a := 0)).2 m hm
section
variable {P : Program} {w : World} {K : PySem.W.Frag} {mg : Str → Option Value} {base : Heap}
def vOpt : Option Nat → V
  | none => .non
  | some q => vi q
/-- inside: a tuple, outside: a list -/
def spQuota (K : PySem.W.Frag) : Sp := fun us H Q _ => ∃ (t a b : Addr) (vs : List Nat) (as bs : List Addr) (ins outs : List (List Nat)), us = [.ref t, .ref a, .ref b] ∧ SqT K H t (vs.map vi) ∧ SqT K H a (as.map V.ref) ∧ LLs K H as ins ∧ SqL K H b (bs.map V.ref) ∧ LLs K H bs outs ∧
  (∀ l ∈ ins, ∀ c ∈ l, c < vs.length) ∧ (∀ l ∈ outs, ∀ c ∈ l, c < vs.length) ∧ (∀ l ∈ ins, l.length < 1000) ∧ (∀ l ∈ outs, l.length < 1000) ∧ ins.length < 1000 ∧ outs.length < 1000 ∧ outs ≠ [] ∧ ∀ H', Same H H' → Q (vOpt (quotaFor vs ins outs)) H'
abbrev nm_quota : List Str := ["votes", "inside", "outside", "quota", "lot"]
theorem sc_quota : FnScope nm_quota ["votes", "inside", "outside"] (defScope s_quota_for) := ⟨rfl, rfl, rfl, by decide +kernel, rfl, by decide +kernel, by decide +kernel⟩
theorem r_quota (T : Ft K mg) : CalR P w K mg base 2 "quota_for" (spQuota K) := by
  refine cal_of T.g_quota_for T.f_quota_for sc_quota (fun _ _ _ _ _ _ us hl => match us, hl with | [_, _, _], _ => rfl) (fun vs H Q E h => ?_) fun cdv A outer s H us Q E hr h => ?_
  · obtain ⟨_, _, _, _, _, _, _, _, rfl, _⟩ := h; rfl
  · obtain ⟨t, a, b, vs, as, bs, ins, outs, rfl, ht, ha, hli, hb, hlo, hi1, ho1, hi2, ho2, hi3, ho3, hne, hq⟩ := h
    refine ⟨_, pss_cons (ps_set (i := 3) sc_quota.nd rfl (.inl rfl) (pe_op op_add pe_int (pe_callB (cr_maxK K rfl) rfl T.z_max boot_max (pa_cons
        (pe_lc (own := [("lot", 4)]) (g := gName 4) rfl sc_quota.nd (pi_list (pv 2)) (blkOk_by (N := nm_quota) (sc := defScope s_quota_for) (by decide +kernel)) (fun _ _ _ _ _ => pg_name (i := 4) sc_quota.nd rfl (.inl rfl))
          (fun _ _ _ _ _ => pts_nil) (fun _ _ _ _ _ => pe_callTy call_int1 rfl T.z_int boot_int (pa_cons (pe_cr (r_votes_of T) hr (by decide) rfl (pa_cons (pv 0) (pa_cons (pv 4) pa_nil))) pa_nil))) pa_nil))))
      (pss_cons (ps_for PassesOwn.never rfl (pi_tup (pv 1)) (pg_name (i := 4) sc_quota.nd rfl (.inl rfl))
        (pss_one (ps_if (pt_cmp (pc_lt (pe_cr (r_votes_of T) hr (by decide) rfl (pa_cons (pv 0) (pa_cons (pv 4) pa_nil))) (pv 3))) (pss_one (ps_ret pe_non)) pss_nil)))
      (pss_one (ps_ret (pv 3)))), ?_⟩
    refine ⟨_, rfl, b, rfl, ⟨_, hb⟩, ?_⟩
    refine fun D hD => lc_val (zs := outs) (I := fun z x => ∃ a : Addr, x = V.ref a ∧ LT K H a z) (fun _ => true) (fun l => vi (sumV vs l)) (walk_lst hb) (lots_in hlo) (by rw [List.length_map, Pd.len hlo]; omega) (fun _ => rfl) (fun z x H1 e1 hz hI Q' q' => q' _ (Same.refl _)) ?_ hD ?_
    · rintro l x H1 e hz ⟨c, rfl, hc⟩ _ Q' q'
      refine ⟨_, rfl, _, rfl, t, c, vs, l, rfl, Same.tup e ht, LT.same hc e, ho1 l hz, ho2 l hz, fun H2 e2 => ?_⟩
      exact .inl ⟨_, rfl, q' _ e2⟩
    · intro H1 e hH1
      rw [List.filter_eq_self.mpr (fun _ _ => rfl)] at hH1
      refine ⟨D, (outs.map (sumV vs)).map fun (n : Nat) => (n : Int), rfl, SqL.of (by rw [hH1, List.map_map, List.map_map]; rfl), by rw [List.length_map, List.length_map]; exact List.length_pos_iff.mpr hne, fun m hm hmy => ?_⟩
      obtain ⟨k, hk, rfl⟩ := List.mem_map.mp hm
      have hmax : (outs.map (sumV vs)).foldl max 0 = k := max_is hk fun y hy => by
        have := hmy _ (List.mem_map_of_mem hy)
        omega
      have eq : quotaFor vs ins outs = if ins.all fun l => decide (1 + k ≤ sumV vs l) then some (1 + k) else none := by
        unfold quotaFor
        rw [hmax]
      refine ⟨_, _, rfl, rfl, ?_⟩
      refine ⟨_, rfl, a, rfl, ⟨_, Same.tup e ha⟩, for_walk (walk_tup (Same.tup e ha)) (fun i σ H' => Same H1 H' ∧ (∃ v, σ = [some (.ref t), some (.ref a), some (.ref b), some (.int (1 + (k : Int))), v]) ∧ ∀ l ∈ ins.take i, 1 + k ≤ sumV vs l) ⟨Same.refl _, ⟨_, rfl⟩, fun l h => nomatch h⟩ (fun i σ H' h => h.1) ?_ ?_⟩
      · rintro i y σ H' hy ⟨e2, ⟨v, rfl⟩, hall⟩
        rw [List.getElem?_map] at hy
        obtain ⟨c, hc, rfl⟩ := Option.map_eq_some_iff.mp hy
        obtain ⟨l, hl1, hl2⟩ := Pd.at (pd_swap hli) hc
        have hlm : l ∈ ins := List.mem_of_getElem? hl1
        have e12 := e.trans e2
        refine ⟨_, rfl, _, rfl, t, c, vs, l, rfl, Same.tup e12 ht, LT.same hl2 e12, hi1 l hlm, hi2 l hlm, fun H3 e3 => ?_⟩
        refine ⟨_, rfl, _, _, rfl, rfl, _, rfl, ?_⟩
        by_cases h4 : 1 + k ≤ sumV vs l
        · refine iteFd (by omega) ⟨e2.trans e3, ⟨_, rfl⟩, fun m hm => ?_⟩
          rw [List.take_add_one, hl1, List.mem_append] at hm
          rcases hm with hm | hm
          · exact hall m hm
          · rw [Option.toList_some, List.mem_singleton] at hm
            rw [hm]; exact h4
        · refine iteTd (by omega) ?_
          have := hq H3 (e12.trans e3)
          rw [eq, if_neg (by rw [List.all_eq_true]; exact fun h => h4 (of_decide_eq_true (h l hlm)))] at this
          exact this
      · rintro σ H' ⟨e2, ⟨v, rfl⟩, hall⟩
        have hlen : (as.map V.ref).length = ins.length := by rw [List.length_map, Pd.len hli]
        rw [hlen, List.take_length] at hall
        have := hq H' (e.trans e2)
        rw [eq, if_pos (by rw [List.all_eq_true]; exact fun l hl => decide_eq_true (hall l hl))] at this
        refine ⟨_, rfl, ?_⟩
        rw [show V.int (1 + (k : Int)) = vOpt (some (1 + k)) from by show _ = V.int ((1 + k : Nat) : Int); rw [Int.natCast_add]; rfl]
        exact this
end
end K72

-- K72Ratio
set_option Elab.async false
set_option linter.all false
set_option maxRecDepth 100000
set_option maxHeartbeats 4000000
/-! ratio.py: making. -/
namespace K72
open PySem PySem.Spec PyProof.Rows L2
/-- // by a positive divisor of up to 64 bits -/
theorem op_fdivW {X : Cx} : OpR X (binaryOp .FloorDiv) (rI (fun _ j => 0 < j ∧ j < 18446744073709551616) fun i j => .int (i / j)) := opI fun i j _ _ _ _ _ hc q => by
  have h1 : (0 : Int) < j := hc.1
  have h2 : j < 18446744073709551616 := hc.2
  refine floordiv_int (by omega) (by rw [Int.fdiv_eq_ediv_of_nonneg i (by omega)]; exact q) (.inl (PyProof.noPylong_of_log2 ?_))
  have h3 : j.natAbs < 2 ^ 64 := by omega
  by_cases h0 : j.natAbs = 0
  · omega
  · have := (Nat.log2_lt h0).mpr h3
    omega
theorem small_mul {i j : Int} (h1 : -18446744073709551616 < i) (h2 : i < 18446744073709551616) : CMul i j := .inl ⟨by simpa using h1, by simpa using h2⟩
/-- in lowest terms -/
structure OkR (o u : Int) : Prop where
  pos : 0 < u
  cop : Int.gcd o u = 1
def RatAt (K : PySem.W.Frag) (H : Hp) (x : Addr) (o u : Int) : Prop := ∃ dx, H x = some (.ins (He.ga K "Ratio") dx (f2 "over" "under" (.int o) (.int u)))
theorem RatAt.x {K : PySem.W.Frag} {H H' : Hp} {x : Addr} {o u : Int} (h : RatAt K H x o u) (e : SameX H H') : RatAt K H' x o u := let ⟨dx, h⟩ := h; ⟨dx, e _ _ h (fun _ q => by cases q)⟩
theorem RatAt.same {K : PySem.W.Frag} {H H' : Hp} {x : Addr} {o u : Int} (h : RatAt K H x o u) (e : Same H H') : RatAt K H' x o u := h.x e.x
/-- Ratio(a, b): o / u -/
structure Norm (a b o u : Int) : Prop where
  ok : OkR o u
  eq : o * b = a * u
  le : u ≤ b
  ab : o.natAbs ≤ a.natAbs
theorem norm_div {a b : Int} (hb : 0 < b) : Norm a b (a / (Nat.gcd a.natAbs b.natAbs : Nat)) (b / (Nat.gcd a.natAbs b.natAbs : Nat)) := by
  have hg : 0 < Nat.gcd a.natAbs b.natAbs := Nat.gcd_pos_of_pos_right _ (by omega)
  have hg2 : (Nat.gcd a.natAbs b.natAbs : Int) = (Int.gcd a b : Nat) := rfl
  rw [hg2]
  have hga : ((Int.gcd a b : Nat) : Int) ∣ a := Int.gcd_dvd_left ..
  have hgb : ((Int.gcd a b : Nat) : Int) ∣ b := Int.gcd_dvd_right ..
  have hgp : (0 : Int) < (Int.gcd a b : Nat) := by
    have : Int.gcd a b = Nat.gcd a.natAbs b.natAbs := rfl
    omega
  generalize hG : Int.gcd a b = g at *
  obtain ⟨c, hc⟩ := hga
  obtain ⟨d, hd⟩ := hgb
  have e1 : a / (g : Int) = c := by rw [hc]; exact Int.mul_ediv_cancel_left c (by omega)
  have e2 : b / (g : Int) = d := by rw [hd]; exact Int.mul_ediv_cancel_left d (by omega)
  rw [e1, e2]
  have hd0 : 0 < d := by
    rw [hd] at hb
    exact Int.pos_of_mul_pos_right hb (by omega)
  refine ⟨⟨hd0, ?_⟩, ?_, ?_, ?_⟩
  · have h1 : Int.gcd (g * c) (g * d) = g * Int.gcd c d := by
      rw [Int.gcd_mul_left]; simp
    rw [← hc, ← hd, hG] at h1
    have hg0 : 0 < g := by omega
    exact Nat.eq_of_mul_eq_mul_left hg0 (by rw [← h1, Nat.mul_one])
  · rw [hc, hd]
    rw [← Int.mul_assoc, Int.mul_comm c g]
  · rw [hd]
    have : 1 * d ≤ (g : Int) * d := Int.mul_le_mul_of_nonneg_right (by omega) (by omega)
    omega
  · rw [hc, Int.natAbs_mul]
    exact Nat.le_mul_of_pos_left _ (by omega)
section
variable {P : Program} {w : World} {K : PySem.W.Frag} {mg : Str → Option Value} {base : Heap}
def spPart : Sp := fun us H Q _ => ∃ a b : Nat, us = [vi a, vi b] ∧ b < 18446744073709551616 ∧ Q (vi (Nat.gcd a b)) H
abbrev nm_part : List Str := ["first", "second"]
theorem sc_part : FnScope nm_part ["first", "second"] (defScope s_common_part) := ⟨rfl, rfl, rfl, by decide +kernel, rfl, by decide +kernel, by decide +kernel⟩
theorem r_part (T : Ft K mg) : CalR P w K mg base 1 "common_part" spPart := by
  refine cal_of T.g_common_part T.f_common_part sc_part (fun _ _ _ _ _ _ us hl => match us, hl with | [_, _], _ => rfl) (fun vs H Q E h => ?_) fun cdv A outer s H us Q E hr h => ?_
  · obtain ⟨_, _, rfl, _⟩ := h; rfl
  · obtain ⟨a, b, rfl, hb, q⟩ := h
    refine ⟨_, pss_cons (ps_while PassesOwn.never (pt_cmpR op_ne (pv 1) pe_int (nomark _)) (pss_one (ps_par (i := 0) (j := 1) rfl sc_part.nd rfl rfl (by decide) rfl rfl (pa_cons (pv 1) (pa_cons (pe_op op_mod (pv 0) (pv 1)) pa_nil)) rfl)))
      (pss_one (ps_ret (pv 0))), ?_⟩
    refine ⟨fun m σ H' => H' = H ∧ ∃ c d : Nat, m = d ∧ σ = [some (vi c), some (vi d)] ∧ Nat.gcd c d = Nat.gcd a b, ⟨b, rfl, a, b, rfl, rfl, rfl⟩, ?_⟩
    rintro m σ H' ⟨rfl, c, d, rfl, rfl, hg⟩
    refine ⟨_, rfl, rfl, _, rfl, ?_⟩
    by_cases h0 : m = 0
    · subst h0
      refine iteFb (by simp [vi]) ⟨_, rfl, ?_⟩
      rw [Nat.gcd_zero_right] at hg
      rw [hg]
      exact q
    · refine iteTb (by simp [vi]; omega) ⟨fun σ' H1 => ∃ m', m' < m ∧ H1 = H' ∧ ∃ c d : Nat, m' = d ∧ σ' = [some (vi c), some (vi d)] ∧ Nat.gcd c d = Nat.gcd a b, fun σ' H1 h => h, ?_⟩
      refine ⟨_, rfl, _, rfl, _, rfl, _, _, rfl, rfl, by omega, ?_⟩
      refine ⟨_, _, rfl, c % m, Nat.mod_lt _ (by omega), rfl, m, c % m, rfl, ?_, ?_⟩
      · show [some (vi m), some (V.int ((c : Int) % (m : Int)))] = _
        rw [← Int.natCast_emod]
        rfl
      · rw [← hg, Nat.gcd_comm m, ← Nat.gcd_rec, Nat.gcd_comm]
end
end K72

-- K72Rsub
set_option Elab.async false
set_option linter.all false
set_option maxRecDepth 100000
set_option maxHeartbeats 4000000
/-! int - x, x of a class with an own __rsub__. -/
namespace K72
open PySem PySem.Spec PyProof.Rows L2
open AutoSeq1 (wpAny_loadPart')
theorem int_sub_ins {prog : Program} {w : World} {A : Around} {E : Value → Shared → Prop} {s : Shared} {a : Int} {t : Tok} {b : Addr} {oc : Value} {od : Option Addr} {sl : Array (Option Value)} {Q : Value → Shared → Prop} (ho : s.heap.get? b = some ⟨oc, od, .plain, sl⟩) (h : Q .notImplemented s) :
    wpAny (model prog w) A (call (.builtin "int.__sub__") [.int a t, .ref b]) Q E s := by
  refine wpAny_call_entry PySem.F.slot_int_sub (typeIs_int s a t) PySem.F.entry_int_sub ?_ (PySem.F.args_int_sub_2 _ _)
  obtain ⟨hp, g, d, tk, os⟩ := s
  wp_walk using wpAny_loadPart' ho
  exact ⟨_, rfl, h⟩
section
variable {X : Cx} {k j : Nat} {C : Addr} {sp : Sp}
/-- int - y -/
def rRsubI (C : Addr) (sp : Sp) : R2 := fun x y H Q => ∃ (i : Int) (b dy : Addr) (gs : List (Str × V)), x = .int i ∧ y = .ref b ∧ H b = some (.ins C dy gs) ∧ sp [y, x] H Q E0
theorem op_rsubI {f0 : Addr} (c : MetR X.prog X.w X.K X.mg X.base k C "__rsub__" sp) (hM0 : Meth X.K C "__sub__" f0) (hs : PySem.W.selfFirst X.K C = true) (hn : PySem.W.subIn X.K (.ref C) (.type "int") = some false) (hr : Room j X.A) (hk : k ≤ j) : OpR X (binaryOp .Sub) (rRsubI C sp) := by
  intro pins s σ H x y v u Q I rx ry h
  obtain ⟨f, hc, hM, F⟩ := c.ex
  obtain ⟨i, b, dy, gs, rfl, rfl, hb, q⟩ := h
  obtain ⟨t, rfl⟩ := (show ∃ t, v = Value.int i t from rx)
  cases (show u = Value.ref b from ry)
  obtain ⟨mB, J, _⟩ := ins_get I.hok hb
  obtain ⟨od, J, _⟩ := J.look
  have Xk := I.kIn
  obtain ⟨cd, rest, hcd, hm⟩ := PySem.W.ksp_first hs
  have L3 : PySem.W.Looks (model X.prog X.w) s.heap (fillsNumberSlot (.ref C) "sub") true := PySem.W.fills_K Xk hcd hm hM0.at_
  have L5 : PySem.W.Looks (model X.prog X.w) s.heap (isSubtype (.ref C) (.type "int")) false := PySem.W.looks_subIn Xk hn
  have L2 : PySem.W.Looks (model X.prog X.w) s.heap (typeOf (.ref b)) (.ref C) := J.type
  have one : wpAny (model X.prog X.w) X.A (tryMethod (.ref b) (dunderR "sub") (.int i t)) (fun r s' => ∃ v, r = some v ∧ EP X pins σ Q v s') X.xe s := by
    refine PySem.W.ksp_try Xk J hM.at_ hM.fn ?_
    refine wpAny_mono (wpAny_call (run_fnR (us := [.ref b, .int i t]) (vs := [.ref b, .int i]) F (hr.mono hk) pass0 I (.cons rfl (.cons ⟨t, rfl⟩ .nil)) q)) (fun w s' z => ?_) fun _ _ x => x
    obtain ⟨z', H', I', rz, qz⟩ := z
    exact SlX.cmpback rz ⟨z', H', I', rz, qz⟩
  have hne : (Value.type "int" == Value.ref C) = false := Bool.eq_false_iff.mpr fun q => by cases beq_iff_eq.mp q
  show wpAny (model X.prog X.w) X.A (binaryOp .Sub (.int i t) (.ref b)) _ _ _
  unfold binaryOp
  refine wpAny_holding ?_
  show wpAny (model X.prog X.w) X.A (binaryOp1 "sub" (.int i t) (.ref b) >>= _) _ _ _
  refine wpAny_bind ?_
  unfold binaryOp1
  refine wpAny_bind (wpAny_typeOf (typeIs_int s i t) (wpAny_bind (L2.here (wpAny_bind (wpAny_of_eq PySem.F.fills_int_sub ?_)))))
  simp only [hne, Bool.false_eq_true, if_false]
  refine wpAny_bind (L3.here ?_)
  simp only [Bool.and_self, if_true]
  refine wpAny_bind (L5.here ?_)
  have hpy : numberSlotInPython (.type "int") "sub" = pure false := rfl
  simp only [Bool.false_eq_true, if_false, pure_bind, Bool.not_false, Bool.and_self, if_true, hpy]
  refine wpAny_bind (wpAny_tryMethod_declines (typeIs_int s i t) PySem.F.slot_int_sub (int_sub_ins J.at_ ⟨rfl, ?_⟩))
  refine wpAny_bind (wpAny_mono one (fun r s' z => ?_) fun _ _ e => e)
  obtain ⟨v, rfl, hq⟩ := z
  exact wpAny_bind (wpAny_rule (wpAny_pure (wpAny_pure hq)))
end
end K72

-- K72Ratio2
set_option Elab.async false
set_option linter.all false
set_option maxRecDepth 100000
set_option maxHeartbeats 4000000
/-! ratio.py: Ratio's methods. -/
namespace K72
open PySem PySem.Spec PyProof.Rows L2
/-- a number of up to 63 bits -/
def Sm (i : Int) : Prop := i.natAbs < 9223372036854775808
theorem Sm.mul {i j : Int} (h : Sm i) : CMul i j := small_mul (by unfold Sm at h; omega) (by unfold Sm at h; omega)
/-- a number of up to 31 bits -/
def S31 (i : Int) : Prop := i.natAbs ≤ 2147483648
theorem S31.sm {i : Int} (h : S31 i) : Sm i := by unfold S31 at h; unfold Sm; omega
section
variable {P : Program} {w : World} {K : PySem.W.Frag} {mg : Str → Option Value} {base : Heap}
def spRatInit (K : PySem.W.Frag) : Sp := fun us H Q _ => ∃ (x dx : Addr) (a b : Int), us = [.ref x, .int a, .int b] ∧ H x = some (.ins (He.ga K "Ratio") dx []) ∧ 0 < b ∧ b < 18446744073709551616 ∧
  ∀ H' o u, (∀ c ob, H c = some ob → c ≠ x → H' c = some ob) → Norm a b o u → RatAt K H' x o u → Q .non H'
abbrev nm_rat : List Str := ["self", "over", "under", "part"]
theorem sc_rat : FnScope nm_rat ["self", "over", "under"] (defScope s_Ratio_init) := ⟨rfl, rfl, rfl, by decide +kernel, rfl, by decide +kernel, by decide +kernel⟩
theorem abs_nat (a : Int) : (if a < 0 then -a else a) = (a.natAbs : Int) := by
  by_cases h : a < 0
  · rw [if_pos h]; omega
  · rw [if_neg h]; omega
theorem body_rat (T : Ft K mg) (f : Addr) : Body P w K mg base "Ratio.__init__" s_Ratio_init f nm_rat 2 (spRatInit K) := by
  intro cdv A outer s H us Q E hr h
  obtain ⟨x, dx, a, b, rfl, hx, hb, hb2, hq⟩ := h
  refine ⟨_, pss_cons (ps_expr (pe_cr (r_check_number T) hr (by decide) rfl (pa_cons pe_str (pa_cons (pv 1) (pa_cons pe_non (pa_cons pe_non pa_nil))))))
    (pss_cons (ps_expr (pe_cr (r_check_number T) hr (by decide) rfl (pa_cons pe_str (pa_cons (pv 2) (pa_cons pe_non (pa_cons pe_non pa_nil))))))
    (pss_cons (ps_if (pt_cmpR op_eq (pv 2) pe_int (nomark _)) (pss_one ps_never) pss_nil)
    (pss_cons (ps_set (i := 3) sc_rat.nd rfl (.inl rfl) (pe_cr (r_part T) hr (by decide) rfl (pa_cons (pe_callB call_abs rfl T.z_abs boot_abs (pa_cons (pe_callTy call_int1 rfl T.z_int boot_int (pa_cons (pv 1) pa_nil)) pa_nil)) (pa_cons (pe_callB call_abs rfl T.z_abs boot_abs (pa_cons (pe_callTy call_int1 rfl T.z_int boot_int (pa_cons (pv 2) pa_nil)) pa_nil)) pa_nil))))
    (pss_cons (ps_if (pt_cmp (pc_lt (pv 2) pe_int)) (pss_one ps_never) pss_nil)
    (pss_cons (ps_fld (pv 0) (pe_op op_fdivW (pv 1) (pv 3)) rfl)
    (pss_one (ps_fld (pv 0) (pe_op op_fdivW (pv 2) (pv 3)) rfl))))))), ?_⟩
  refine ⟨_, rfl, _, _, _, _, a, none, none, rfl, rfl, rfl, rfl, (fun _ h => nomatch h), (fun _ h => nomatch h), ?_⟩
  refine ⟨_, rfl, _, _, _, _, b, none, none, rfl, rfl, rfl, rfl, (fun _ h => nomatch h), (fun _ h => nomatch h), ?_⟩
  refine ⟨_, rfl, rfl, _, rfl, ?_⟩
  refine iteFb (by simp; omega) ?_
  refine ⟨_, rfl, .inl ⟨a, rfl, a, rfl, _, rfl, .inl ⟨b, rfl, b, rfl, a.natAbs, b.natAbs, by rw [abs_nat, abs_nat]; rfl, by omega, ?_⟩⟩⟩
  have hg : 0 < Nat.gcd a.natAbs b.natAbs := Nat.gcd_pos_of_pos_right _ (by omega)
  have hg2 : Nat.gcd a.natAbs b.natAbs ≤ b.natAbs := Nat.gcd_le_right _ (by omega)
  have N := norm_div (a := a) hb
  refine ⟨_, rfl, _, _, rfl, rfl, _, rfl, ?_⟩
  refine iteFd (by omega) ?_
  refine ⟨_, rfl, _, rfl, _, _, rfl, rfl, ⟨by omega, by omega⟩, ?_⟩
  refine ⟨_, rfl, x, _, dx, _, rfl, hx, T.c_Ratio, T.n_Ratio_over, (by show 0 < 1000; decide), ?_⟩
  refine ⟨_, rfl, _, rfl, _, _, rfl, rfl, ⟨by omega, by omega⟩, ?_⟩
  refine ⟨_, rfl, x, _, dx, _, rfl, upd_same, T.c_Ratio, T.n_Ratio_under, put1_len _ _, ?_⟩
  exact hq _ _ _ (fun b o hb hbx => by rw [upd_ne hbx, upd_ne hbx]; exact hb) N ⟨dx, upd_same⟩
theorem fnr_rat (T : Ft K mg) : FnR P w K mg base CX0 3 (He.ma K (He.ga K "Ratio") "__init__") (spRatInit K) ∧ FnR P w K mg base CX0 3 (He.ma K (He.ga K "Ratio") "__init__") (fun vs H Q E => spRatInit K (vs ++ [.int 1]) H Q E) := by
  obtain ⟨fd, F⟩ := T.f_Ratio_init
  have G : FnOk P w K mg base CX0 3 _ fd ["self", "over", "under"] (spRatInit K) := F.ok sc_rat (fun vs H Q E h => by obtain ⟨_, _, _, _, rfl, _⟩ := h; rfl) fun cdv A outer s H vs Q E hr h => by
    obtain ⟨t, h1, h2⟩ := body_rat T _ cdv A outer s H vs Q E hr h
    exact ⟨t, h1.nox, h2⟩
  constructor
  · obtain ⟨ds, rd, hb⟩ := FunD.binds1 (ps := ["self", "over", "under"]) F 3 1 (by simp) rfl (fun T kV doc pm an cdv ct us its hl hi => match us, hl, its, hi with | [_, _, _], _, [_], _ => ⟨_, rfl, rfl⟩)
    exact (G.raw hb rd).imp fun vs H Q E h => by simpa using h
  · obtain ⟨ds, rd, hb⟩ := FunD.binds1 (ps := ["self", "over", "under"]) F 2 0 (by simp) rfl (fun T kV doc pm an cdv ct us its hl hi => match us, hl, its, hi with | [_, _], _, [_], _ => ⟨_, rfl, rfl⟩)
    exact G.raw hb rd
theorem mk_rat (T : Ft K mg) : MakR P w K mg base 3 "Ratio" (He.ga K "Ratio") (spRatInit K) := ⟨_, T.m_Ratio, (fnr_rat T).1, T.g_Ratio⟩
theorem mk_rat1 (T : Ft K mg) : MakR P w K mg base 3 "Ratio" (He.ga K "Ratio") (fun vs H Q E => spRatInit K (vs ++ [.int 1]) H Q E) := ⟨_, T.m_Ratio, (fnr_rat T).2, T.g_Ratio⟩
theorem rat_k {us : List V} {H : Hp} {G : Addr → Hp → Prop} (h : ∃ a b : Int, us = [.int a, .int b] ∧ 0 < b ∧ b < 18446744073709551616 ∧ ∀ x H2 o u, H x = none → Same H H2 → Norm a b o u → RatAt K H2 x o u → G x H2) :
    ∀ x dx, H x = none → H dx = none → dx ≠ x → spRatInit K (V.ref x :: us) (upd (upd H dx (.own x)) x (.ins (He.ga K "Ratio") dx [])) (fun v H2 => v = .non ∧ G x H2) E0 := by
  obtain ⟨a, b, rfl, hb, hb2, hq⟩ := h
  intro x dx hx hdx hne
  have e1 : Same H (upd (upd H dx (.own x)) x (.ins (He.ga K "Ratio") dx [])) := Same.mut (Same.new hdx) hx
  exact ⟨x, dx, a, b, rfl, upd_same, hb, hb2, fun H' o u hk n hf => ⟨rfl, hq x H' o u hx (fun b o hb => hk b o (e1 b o hb) (fun z => by rw [z, hx] at hb; cases hb)) n hf⟩⟩
theorem rat_k1 {us : List V} {H : Hp} {G : Addr → Hp → Prop} (h : ∃ a : Int, us = [.int a] ∧ ∀ x H2, H x = none → Same H H2 → RatAt K H2 x a 1 → G x H2) :
    ∀ x dx, H x = none → H dx = none → dx ≠ x → spRatInit K ((V.ref x :: us) ++ [.int 1]) (upd (upd H dx (.own x)) x (.ins (He.ga K "Ratio") dx [])) (fun v H2 => v = .non ∧ G x H2) E0 := by
  obtain ⟨a, rfl, hq⟩ := h
  refine rat_k (us := [.int a, .int 1]) ⟨a, 1, rfl, by decide, by decide, fun x H2 o u hx e n r => ?_⟩
  have h1 : u = 1 := by have := n.le; have := n.ok.pos; omega
  subst h1
  have h2 : o = a := by have := n.eq; omega
  subst h2
  exact hq x H2 hx e r
/-! ### half, ratio_of -/
def spHalf (K : PySem.W.Frag) : Sp := fun us H Q _ => us = [] ∧ ∀ x H2, H x = none → Same H H2 → RatAt K H2 x 1 2 → Q (.ref x) H2
theorem sc_half : FnScope [] [] (defScope s_half) := ⟨rfl, rfl, rfl, by decide +kernel, rfl, by decide +kernel, by decide +kernel⟩
theorem fn_half (T : Ft K mg) : FnR P w K mg base CX0 5 (hfA K) (spHalf K) := by
  refine fnr_of T.f_half sc_half (fun _ _ _ _ _ _ us hl => match us, hl with | [], _ => rfl) (fun vs H Q E h => ?_) fun cdv A outer s H us Q E hr h => ?_
  · rw [h.1]; rfl
  · obtain ⟨rfl, hq⟩ := h
    refine ⟨_, pss_one (ps_ret (pe_kr (mk_rat T) hr (by decide) rfl (pa_cons pe_int (pa_cons pe_int pa_nil)))), ?_⟩
    refine rat_k ⟨1, 2, rfl, by decide, by decide, fun x H2 o u hx e n r => ?_⟩
    have h0 := n.eq
    have h1 := n.le
    have h2 := n.ok.pos
    have h3 : u = 2 := by omega
    subst h3
    have h4 : o = 1 := by omega
    subst h4
    exact hq x H2 hx e r
/-- a Ratio, or an int -/
def NumAt (K : PySem.W.Frag) (H : Hp) (v : V) (o u : Int) : Prop := (∃ x, v = .ref x ∧ RatAt K H x o u) ∨ (v = .int o ∧ u = 1)
def spRatioOf (K : PySem.W.Frag) : Sp := fun us H Q _ => ∃ (v : V) (o u : Int), us = [v] ∧ NumAt K H v o u ∧ ∀ x H2, Same H H2 → RatAt K H2 x o u → Q (.ref x) H2
abbrev nm_rof : List Str := ["value"]
theorem sc_rof : FnScope nm_rof ["value"] (defScope s_ratio_of) := ⟨rfl, rfl, rfl, by decide +kernel, rfl, by decide +kernel, by decide +kernel⟩
theorem r_ratio_of (T : Ft K mg) : CalR P w K mg base 5 "ratio_of" (spRatioOf K) := by
  refine cal_of T.g_ratio_of T.f_ratio_of sc_rof (fun _ _ _ _ _ _ us hl => match us, hl with | [_], _ => rfl) (fun vs H Q E h => ?_) fun cdv A outer s H us Q E hr h => ?_
  · obtain ⟨_, _, _, rfl, _⟩ := h; rfl
  · obtain ⟨v, o, u, rfl, hv, hq⟩ := h
    refine ⟨_, pss_cons (ps_if (pt_val (pe_callB call_isi rfl T.z_isinstance boot_isinstance (pa_cons (pv 0) (pa_cons (pe_glob (v := .ref (He.ga K "Ratio")) rfl T.g_Ratio rfl) pa_nil)))) (pss_one (ps_ret (pv 0))) pss_nil)
      (pss_cons (ps_if (pt_val (pe_cr (r_is_integer T) hr (by decide) rfl (pa_cons (pv 0) pa_nil))) (pss_one (ps_ret (pe_kr (mk_rat1 T) hr (by decide) rfl (pa_cons (pv 0) pa_nil)))) pss_nil)
      (pss_one ps_never)), ?_⟩
    rcases hv with ⟨x, rfl, hx⟩ | ⟨rfl, rfl⟩
    · obtain ⟨dx, hx2⟩ := id hx
      refine ⟨_, rfl, _, _, _, _, true, rfl, .own _, .base (T.ty_Ratio hx2), kit_self, true, rfl, ?_⟩
      exact iteT ⟨_, rfl, hq x H (Same.refl _) hx⟩
    · refine ⟨_, rfl, _, _, _, _, false, rfl, .own _, .base (.int o), T.kit_int, false, rfl, ?_⟩
      refine iteF ⟨_, rfl, o, rfl, true, rfl, iteT ⟨_, rfl, ?_⟩⟩
      exact rat_k1 ⟨o, rfl, fun x H2 hx e r => hq x H2 e r⟩
end
end K72

-- K72Ratio3
set_option Elab.async false
set_option linter.all false
set_option maxRecDepth 100000
set_option maxHeartbeats 4000000
/-! ratio.py: comparisons, operators (printed by gen_ratio3.py). -/
namespace K72
open PySem PySem.Spec PyProof.Rows L2
section
variable {P : Program} {w : World} {K : PySem.W.Frag} {mg : Str → Option Value} {base : Heap}
/-- a comparison: f of the two cross products -/
def spRatCmp (K : PySem.W.Frag) (f : Int → Int → Bool) : Sp := fun us H Q _ => ∃ (x : Addr) (v : V) (o u o2 u2 : Int), us = [.ref x, v] ∧ RatAt K H x o u ∧ NumAt K H v o2 u2 ∧ Sm o ∧ Sm o2 ∧ ∀ H2, Same H H2 → Q (.bl (f (o * u2) (o2 * u))) H2
abbrev nm_rcmp : List Str := ["self", "other", "value"]
theorem sc_rlt : FnScope nm_rcmp ["self", "other"] (defScope s_Ratio_lt) := ⟨rfl, rfl, rfl, by decide +kernel, rfl, by decide +kernel, by decide +kernel⟩
theorem m_rlt (T : Ft K mg) : MetR P w K mg base 6 (He.ga K "Ratio") "__lt__" (spRatCmp K (fun i j => decide (i < j))) := by
  refine met_of T.c_Ratio T.t_Ratio_lt T.f_Ratio_lt sc_rlt (fun _ _ _ _ _ _ us hl => match us, hl with | [_, _], _ => rfl) (fun vs H Q E h => ?_) fun cdv A outer s H us Q E hr h => ?_
  · obtain ⟨_, _, _, _, _, _, rfl, _⟩ := h; rfl
  · obtain ⟨x, v, o, u, o2, u2, rfl, hx, hv, hs1, hs2, hq⟩ := h
    refine ⟨_, pss_cons (ps_set (i := 2) sc_rlt.nd rfl (.inl rfl) (pe_cr (r_ratio_of T) hr (by decide) rfl (pa_cons (pv 1) pa_nil)))
      (pss_cons (ps_if (pt_cmp (pc_isN (pv 2))) (pss_one ps_never) pss_nil)
      (pss_one (ps_ret (pe_cmp (pc_lt (pe_op op_mul (pe_fldK K (pv 0)) (pe_fldK K (pv 2))) (pe_op op_mul (pe_fldK K (pv 2)) (pe_fldK K (pv 0)))))))), ?_⟩
    refine ⟨_, rfl, v, o2, u2, rfl, hv, fun y H1 e1 hy => ?_⟩
    obtain ⟨dx, hx1⟩ := hx.same e1
    obtain ⟨dy, hy1⟩ := hy
    refine ⟨_, rfl, _, rfl, iteF ?_⟩
    refine ⟨_, rfl, x, _, dx, _, _, rfl, hx1, T.c_Ratio, T.n_Ratio_over, f2_a (by decide), _, rfl, y, _, dy, _, _, rfl, hy1, T.c_Ratio, T.n_Ratio_under, f2_b, _, _, rfl, rfl, hs1.mul, ?_⟩
    refine ⟨_, rfl, y, _, dy, _, _, rfl, hy1, T.c_Ratio, T.n_Ratio_over, f2_a (by decide), _, rfl, x, _, dx, _, _, rfl, hx1, T.c_Ratio, T.n_Ratio_under, f2_b, _, _, rfl, rfl, hs2.mul, _, _, rfl, rfl, ?_⟩
    exact hq H1 e1
theorem sc_rgt : FnScope nm_rcmp ["self", "other"] (defScope s_Ratio_gt) := ⟨rfl, rfl, rfl, by decide +kernel, rfl, by decide +kernel, by decide +kernel⟩
theorem m_rgt (T : Ft K mg) : MetR P w K mg base 6 (He.ga K "Ratio") "__gt__" (spRatCmp K (fun i j => decide (j < i))) := by
  refine met_of T.c_Ratio T.t_Ratio_gt T.f_Ratio_gt sc_rgt (fun _ _ _ _ _ _ us hl => match us, hl with | [_, _], _ => rfl) (fun vs H Q E h => ?_) fun cdv A outer s H us Q E hr h => ?_
  · obtain ⟨_, _, _, _, _, _, rfl, _⟩ := h; rfl
  · obtain ⟨x, v, o, u, o2, u2, rfl, hx, hv, hs1, hs2, hq⟩ := h
    refine ⟨_, pss_cons (ps_set (i := 2) sc_rgt.nd rfl (.inl rfl) (pe_cr (r_ratio_of T) hr (by decide) rfl (pa_cons (pv 1) pa_nil)))
      (pss_cons (ps_if (pt_cmp (pc_isN (pv 2))) (pss_one ps_never) pss_nil)
      (pss_one (ps_ret (pe_cmp (pc_gt (pe_op op_mul (pe_fldK K (pv 0)) (pe_fldK K (pv 2))) (pe_op op_mul (pe_fldK K (pv 2)) (pe_fldK K (pv 0)))))))), ?_⟩
    refine ⟨_, rfl, v, o2, u2, rfl, hv, fun y H1 e1 hy => ?_⟩
    obtain ⟨dx, hx1⟩ := hx.same e1
    obtain ⟨dy, hy1⟩ := hy
    refine ⟨_, rfl, _, rfl, iteF ?_⟩
    refine ⟨_, rfl, x, _, dx, _, _, rfl, hx1, T.c_Ratio, T.n_Ratio_over, f2_a (by decide), _, rfl, y, _, dy, _, _, rfl, hy1, T.c_Ratio, T.n_Ratio_under, f2_b, _, _, rfl, rfl, hs1.mul, ?_⟩
    refine ⟨_, rfl, y, _, dy, _, _, rfl, hy1, T.c_Ratio, T.n_Ratio_over, f2_a (by decide), _, rfl, x, _, dx, _, _, rfl, hx1, T.c_Ratio, T.n_Ratio_under, f2_b, _, _, rfl, rfl, hs2.mul, _, _, rfl, rfl, ?_⟩
    exact hq H1 e1
theorem sc_rge : FnScope nm_rcmp ["self", "other"] (defScope s_Ratio_ge) := ⟨rfl, rfl, rfl, by decide +kernel, rfl, by decide +kernel, by decide +kernel⟩
theorem m_rge (T : Ft K mg) : MetR P w K mg base 6 (He.ga K "Ratio") "__ge__" (spRatCmp K (fun i j => decide (j ≤ i))) := by
  refine met_of T.c_Ratio T.t_Ratio_ge T.f_Ratio_ge sc_rge (fun _ _ _ _ _ _ us hl => match us, hl with | [_, _], _ => rfl) (fun vs H Q E h => ?_) fun cdv A outer s H us Q E hr h => ?_
  · obtain ⟨_, _, _, _, _, _, rfl, _⟩ := h; rfl
  · obtain ⟨x, v, o, u, o2, u2, rfl, hx, hv, hs1, hs2, hq⟩ := h
    refine ⟨_, pss_cons (ps_set (i := 2) sc_rge.nd rfl (.inl rfl) (pe_cr (r_ratio_of T) hr (by decide) rfl (pa_cons (pv 1) pa_nil)))
      (pss_cons (ps_if (pt_cmp (pc_isN (pv 2))) (pss_one ps_never) pss_nil)
      (pss_one (ps_ret (pe_cmp (pc_ge (pe_op op_mul (pe_fldK K (pv 0)) (pe_fldK K (pv 2))) (pe_op op_mul (pe_fldK K (pv 2)) (pe_fldK K (pv 0)))))))), ?_⟩
    refine ⟨_, rfl, v, o2, u2, rfl, hv, fun y H1 e1 hy => ?_⟩
    obtain ⟨dx, hx1⟩ := hx.same e1
    obtain ⟨dy, hy1⟩ := hy
    refine ⟨_, rfl, _, rfl, iteF ?_⟩
    refine ⟨_, rfl, x, _, dx, _, _, rfl, hx1, T.c_Ratio, T.n_Ratio_over, f2_a (by decide), _, rfl, y, _, dy, _, _, rfl, hy1, T.c_Ratio, T.n_Ratio_under, f2_b, _, _, rfl, rfl, hs1.mul, ?_⟩
    refine ⟨_, rfl, y, _, dy, _, _, rfl, hy1, T.c_Ratio, T.n_Ratio_over, f2_a (by decide), _, rfl, x, _, dx, _, _, rfl, hx1, T.c_Ratio, T.n_Ratio_under, f2_b, _, _, rfl, rfl, hs2.mul, _, _, rfl, rfl, ?_⟩
    exact hq H1 e1
def spRatEq (K : PySem.W.Frag) : Sp := fun us H Q _ => ∃ (x y : Addr) (o u o2 u2 : Int), us = [.ref x, .ref y] ∧ RatAt K H x o u ∧ RatAt K H y o2 u2 ∧ Q (.bl (decide (o = o2) && decide (u = u2))) H
abbrev nm_req : List Str := ["self", "other"]
theorem sc_req : FnScope nm_req ["self", "other"] (defScope s_Ratio_eq) := ⟨rfl, rfl, rfl, by decide +kernel, rfl, by decide +kernel, by decide +kernel⟩
theorem m_req (T : Ft K mg) : MetR P w K mg base 1 (He.ga K "Ratio") "__eq__" (spRatEq K) := by
  refine met_of T.c_Ratio T.t_Ratio_eq T.f_Ratio_eq sc_req (fun _ _ _ _ _ _ us hl => match us, hl with | [_, _], _ => rfl) (fun vs H Q E h => ?_) fun cdv A outer s H us Q E hr h => ?_
  · obtain ⟨_, _, _, _, _, _, rfl, _⟩ := h; rfl
  · obtain ⟨x, y, o, u, o2, u2, rfl, ⟨dx, hx⟩, ⟨dy, hy⟩, hq⟩ := h
    refine ⟨_, pss_cons (ps_if (pt_not (pt_val (pe_callB call_isi rfl T.z_isinstance boot_isinstance (pa_cons (pv 1) (pa_cons (pe_glob (v := .ref (He.ga K "Ratio")) rfl T.g_Ratio rfl) pa_nil))))) (pss_one ps_never) pss_nil)
      (pss_one (ps_ret (pe_and (pe_cmpR op_eq (pe_fldK K (pv 0)) (pe_fldK K (pv 1)) (nomark _)) (pe_one (pe_cmpR op_eq (pe_fldK K (pv 0)) (pe_fldK K (pv 1)) (nomark _)))))), ?_⟩
    refine ⟨_, rfl, _, _, _, _, true, rfl, .own _, .base (T.ty_Ratio hy), kit_self, true, rfl, ?_⟩
    refine iteF ?_
    refine ⟨_, rfl, x, _, dx, _, _, rfl, hx, T.c_Ratio, T.n_Ratio_over, f2_a (by decide), _, rfl, y, _, dy, _, _, rfl, hy, T.c_Ratio, T.n_Ratio_over, f2_a (by decide), rfl, _, rfl, ?_⟩
    by_cases hnm : o = o2
    · subst hnm
      refine iteTb (by simp) ?_
      refine ⟨_, rfl, x, _, dx, _, _, rfl, hx, T.c_Ratio, T.n_Ratio_under, f2_b, _, rfl, y, _, dy, _, _, rfl, hy, T.c_Ratio, T.n_Ratio_under, f2_b, rfl, ?_⟩
      simpa using hq
    · refine iteFb (by simp; exact hnm) ?_
      rw [decide_eq_false hnm, Bool.false_and] at hq
      have e : decide (V.int o = V.int o2) = false := decide_eq_false (by simpa using hnm)
      exact e ▸ hq
/-- a new Ratio: g and h of the two -/
def spRatOp (K : PySem.W.Frag) (g : Int → Int → Int → Int → Int) : Sp := fun us H Q _ => ∃ (x : Addr) (v : V) (o u o2 u2 : Int), us = [.ref x, v] ∧ RatAt K H x o u ∧ NumAt K H v o2 u2 ∧ S31 o ∧ S31 u ∧ S31 o2 ∧ S31 u2 ∧ 0 < u ∧ 0 < u2 ∧
  ∀ z H2 o3 u3, H z = none → Same H H2 → Norm (g o u o2 u2) (u * u2) o3 u3 → RatAt K H2 z o3 u3 → Q (.ref z) H2
theorem mul31 {u u2 : Int} (h1 : S31 u) (h2 : S31 u2) (p1 : 0 < u) (p2 : 0 < u2) : 0 < u * u2 ∧ u * u2 < 18446744073709551616 := by
  unfold S31 at h1 h2
  refine ⟨Int.mul_pos p1 p2, ?_⟩
  have a1 : u * u2 ≤ 2147483648 * u2 := Int.mul_le_mul_of_nonneg_right (by omega) (by omega)
  have a2 : (2147483648 : Int) * u2 ≤ 2147483648 * 2147483648 := Int.mul_le_mul_of_nonneg_left (by omega) (by omega)
  omega
theorem sc_rsub : FnScope nm_rcmp ["self", "other"] (defScope s_Ratio_sub) := ⟨rfl, rfl, rfl, by decide +kernel, rfl, by decide +kernel, by decide +kernel⟩
theorem m_rsub (T : Ft K mg) : MetR P w K mg base 6 (He.ga K "Ratio") "__sub__" (spRatOp K (fun o u o2 u2 => o * u2 - o2 * u)) := by
  refine met_of T.c_Ratio T.t_Ratio_sub T.f_Ratio_sub sc_rsub (fun _ _ _ _ _ _ us hl => match us, hl with | [_, _], _ => rfl) (fun vs H Q E h => ?_) fun cdv A outer s H us Q E hr h => ?_
  · obtain ⟨_, _, _, _, _, _, rfl, _⟩ := h; rfl
  · obtain ⟨x, v, o, u, o2, u2, rfl, hx, hv, s1, s2, s3, s4, p1, p2, hq⟩ := h
    refine ⟨_, pss_cons (ps_set (i := 2) sc_rsub.nd rfl (.inl rfl) (pe_cr (r_ratio_of T) hr (by decide) rfl (pa_cons (pv 1) pa_nil)))
      (pss_cons (ps_if (pt_cmp (pc_isN (pv 2))) (pss_one ps_never) pss_nil)
      (pss_one (ps_ret (pe_kr (mk_rat T) hr (by decide) rfl (pa_cons (pe_op op_sub (pe_op op_mul (pe_fldK K (pv 0)) (pe_fldK K (pv 2))) (pe_op op_mul (pe_fldK K (pv 2)) (pe_fldK K (pv 0)))) (pa_cons (pe_op op_mul (pe_fldK K (pv 0)) (pe_fldK K (pv 2))) pa_nil)))))), ?_⟩
    refine ⟨_, rfl, v, o2, u2, rfl, hv, fun y H1 e1 hy => ?_⟩
    obtain ⟨dx, hx1⟩ := hx.same e1
    obtain ⟨dy, hy1⟩ := hy
    refine ⟨_, rfl, _, rfl, iteF ?_⟩
    refine ⟨_, rfl, x, _, dx, _, _, rfl, hx1, T.c_Ratio, T.n_Ratio_over, f2_a (by decide), _, rfl, y, _, dy, _, _, rfl, hy1, T.c_Ratio, T.n_Ratio_under, f2_b, _, _, rfl, rfl, s1.sm.mul, ?_⟩
    refine ⟨_, rfl, y, _, dy, _, _, rfl, hy1, T.c_Ratio, T.n_Ratio_over, f2_a (by decide), _, rfl, x, _, dx, _, _, rfl, hx1, T.c_Ratio, T.n_Ratio_under, f2_b, _, _, rfl, rfl, s3.sm.mul, _, _, rfl, rfl, ?_⟩
    refine ⟨_, rfl, x, _, dx, _, _, rfl, hx1, T.c_Ratio, T.n_Ratio_under, f2_b, _, rfl, y, _, dy, _, _, rfl, hy1, T.c_Ratio, T.n_Ratio_under, f2_b, _, _, rfl, rfl, s2.sm.mul, ?_⟩
    obtain ⟨q1, q2⟩ := mul31 s2 s4 p1 p2
    exact rat_k ⟨_, _, rfl, q1, q2, fun z H2 o3 u3 hz e2 n r => hq z H2 o3 u3 (e1.free hz) (e1.trans e2) n r⟩
theorem sc_rmul : FnScope nm_rcmp ["self", "other"] (defScope s_Ratio_mul) := ⟨rfl, rfl, rfl, by decide +kernel, rfl, by decide +kernel, by decide +kernel⟩
theorem m_rmul (T : Ft K mg) : MetR P w K mg base 6 (He.ga K "Ratio") "__mul__" (spRatOp K (fun o u o2 u2 => o * o2)) := by
  refine met_of T.c_Ratio T.t_Ratio_mul T.f_Ratio_mul sc_rmul (fun _ _ _ _ _ _ us hl => match us, hl with | [_, _], _ => rfl) (fun vs H Q E h => ?_) fun cdv A outer s H us Q E hr h => ?_
  · obtain ⟨_, _, _, _, _, _, rfl, _⟩ := h; rfl
  · obtain ⟨x, v, o, u, o2, u2, rfl, hx, hv, s1, s2, s3, s4, p1, p2, hq⟩ := h
    refine ⟨_, pss_cons (ps_set (i := 2) sc_rmul.nd rfl (.inl rfl) (pe_cr (r_ratio_of T) hr (by decide) rfl (pa_cons (pv 1) pa_nil)))
      (pss_cons (ps_if (pt_cmp (pc_isN (pv 2))) (pss_one ps_never) pss_nil)
      (pss_one (ps_ret (pe_kr (mk_rat T) hr (by decide) rfl (pa_cons (pe_op op_mul (pe_fldK K (pv 0)) (pe_fldK K (pv 2))) (pa_cons (pe_op op_mul (pe_fldK K (pv 0)) (pe_fldK K (pv 2))) pa_nil)))))), ?_⟩
    refine ⟨_, rfl, v, o2, u2, rfl, hv, fun y H1 e1 hy => ?_⟩
    obtain ⟨dx, hx1⟩ := hx.same e1
    obtain ⟨dy, hy1⟩ := hy
    refine ⟨_, rfl, _, rfl, iteF ?_⟩
    refine ⟨_, rfl, x, _, dx, _, _, rfl, hx1, T.c_Ratio, T.n_Ratio_over, f2_a (by decide), _, rfl, y, _, dy, _, _, rfl, hy1, T.c_Ratio, T.n_Ratio_over, f2_a (by decide), _, _, rfl, rfl, s1.sm.mul, ?_⟩
    refine ⟨_, rfl, x, _, dx, _, _, rfl, hx1, T.c_Ratio, T.n_Ratio_under, f2_b, _, rfl, y, _, dy, _, _, rfl, hy1, T.c_Ratio, T.n_Ratio_under, f2_b, _, _, rfl, rfl, s2.sm.mul, ?_⟩
    obtain ⟨q1, q2⟩ := mul31 s2 s4 p1 p2
    exact rat_k ⟨_, _, rfl, q1, q2, fun z H2 o3 u3 hz e2 n r => hq z H2 o3 u3 (e1.free hz) (e1.trans e2) n r⟩
/-- other - self -/
def spRatRsub (K : PySem.W.Frag) : Sp := fun us H Q _ => ∃ (x : Addr) (i o u : Int), us = [.ref x, .int i] ∧ RatAt K H x o u ∧ S31 o ∧ S31 u ∧ S31 i ∧ 0 < u ∧
  ∀ z H2 o3 u3, H z = none → Same H H2 → Norm (i * u - o * 1) (1 * u) o3 u3 → RatAt K H2 z o3 u3 → Q (.ref z) H2
theorem sc_rrsub : FnScope nm_rcmp ["self", "other"] (defScope s_Ratio_rsub) := ⟨rfl, rfl, rfl, by decide +kernel, rfl, by decide +kernel, by decide +kernel⟩
theorem m_rrsub (T : Ft K mg) : MetR P w K mg base 8 (He.ga K "Ratio") "__rsub__" (spRatRsub K) := by
  refine met_of T.c_Ratio T.t_Ratio_rsub T.f_Ratio_rsub sc_rrsub (fun _ _ _ _ _ _ us hl => match us, hl with | [_, _], _ => rfl) (fun vs H Q E h => ?_) fun cdv A outer s H us Q E hr h => ?_
  · obtain ⟨_, _, _, _, rfl, _⟩ := h; rfl
  · obtain ⟨x, i, o, u, rfl, hx, s1, s2, s3, p1, hq⟩ := h
    refine ⟨_, pss_cons (ps_set (i := 2) sc_rrsub.nd rfl (.inl rfl) (pe_cr (r_ratio_of T) hr (by decide) rfl (pa_cons (pv 1) pa_nil)))
      (pss_cons (ps_if (pt_cmp (pc_isN (pv 2))) (pss_one ps_never) pss_nil)
      (pss_one (ps_ret (pe_op (op_binI (m_rsub T) T.first_Ratio rfl hr (by decide)) (pv 2) (pv 0))))), ?_⟩
    refine ⟨_, rfl, .int i, i, 1, rfl, .inr ⟨rfl, rfl⟩, fun y H1 e1 hy => ?_⟩
    have hx1 := hx.same e1
    obtain ⟨dx, hx2⟩ := id hx1
    obtain ⟨dy, hy1⟩ := id hy
    refine ⟨_, rfl, _, rfl, iteF ?_⟩
    exact ⟨_, rfl, _, rfl, y, dy, _, x, dx, _, rfl, rfl, hy1, hx2, y, .ref x, i, 1, o, u, rfl, hy, .inl ⟨x, rfl, hx1⟩, s3, by unfold S31; omega, s1, s2, by decide, p1, fun z H2 o3 u3 hz e2 n r => hq z H2 o3 u3 (e1.free hz) (e1.trans e2) n r⟩
end
end K72

-- K72Chances
set_option Elab.async false
set_option linter.all false
set_option maxRecDepth 100000
set_option maxHeartbeats 4000000
/-! chances.py. -/
namespace K72
open PySem PySem.Spec PyProof.Rows L2
theorem ip_mulI {X : Cx} : PIp X .Mult (fun x y H Q => ∃ i j : Int, x = .int i ∧ y = .int j ∧ CMul i j ∧ Q (.int (i * j)) H) := by
  intro pins s σ H x y v u Q I r1 r2 h
  obtain ⟨i, j, rfl, rfl, c, q⟩ := h
  obtain ⟨t, rfl⟩ := (show ∃ t, v = Value.int i t from r1)
  obtain ⟨t', rfl⟩ := (show ∃ t, u = Value.int j t from r2)
  exact imul_int ⟨.int _, H, I.tok _, ⟨_, rfl⟩, q⟩ c.ok
/-- C(*y) -/
theorem pe_krS1 {X : Cx} {k j : Nat} {C : Addr} {x : Str} {sp : Sp} {e : Expr} {te : TE} {p p2 pos : Pos} (c : MakR X.prog X.w X.K X.mg X.base k x C sp) (hr : Room j X.A) (hk : k + 1 ≤ j) (hg : Gl X x) (he : PE X e te) (hd : (x == ("__debug__" : Str)) = false := by decide)
    (hst : starEach [.Starred e p2] X.env = [(true, eval e X.env)] := by rfl) :
    PE X (.Call (.Name x p) [.Starred e p2] [] pos) (fun σ H Q => te σ H fun y H1 => ∃ a xs, y = V.ref a ∧ (SqT X.K H1 a xs ∨ SqL X.K H1 a xs) ∧ ∀ x dx, H1 x = none → H1 dx = none → dx ≠ x → sp (V.ref x :: xs) (upd (upd H1 dx (.own x)) x (.ins C dx [])) (fun v H2 => v = .non ∧ Q (.ref x) H2) E0) := by
  obtain ⟨f, M, F, hm⟩ := c.ex
  refine ⟨fun pins s σ H Q I h => wpAny_Call_Name_kw (ld_glob I hg hm ?_ hd)⟩
  refine PySem.W.callWith_S (h₀ := X.base) I.ok.mod.kin M.kp (thn (he.run pins s σ H _ I h) fun v s1 ⟨y, H1, I1, ry, a, xs, ey, hxs, q⟩ => ?_) hst
  subst ey
  obtain rfl : v = Value.ref a := ry
  exact StX.star_any I1 hxs fun us s2 I2 rv => ⟨I2.kIn, StX.run_makeR M F (hr.mono hk) pass0 I2 rv q⟩
/-! ### the mirror -/
abbrev Rt : Type := Int × Int
structure OkC1 (c : Rt) : Prop where
  ok : OkR c.1 c.2
  half : c.2 ≤ 2 * c.1
  one : c.1 < c.2
  eight : c.2 ≤ 8
structure OkC (cs : List Rt) : Prop where
  n1 : 1 ≤ cs.length
  n4 : cs.length ≤ 4
  all : ∀ c ∈ cs, OkC1 c
/-- over of the chance that just the lot holds, from the copy i on -/
def overN (lot : List Nat) : Nat → List Rt → Int
  | _, [] => 1
  | i, c :: r => (if lot.contains i then c.1 else c.2 - c.1) * overN lot (i + 1) r
def underN (cs : List Rt) : Int := (cs.map (·.2)).foldr (· * ·) 1
/-! ### how chances stand -/
def RatsAt (K : PySem.W.Frag) (H : Hp) (as : List Addr) (cs : List Rt) : Prop := Paired (fun a (c : Rt) => RatAt K H a c.1 c.2) as cs
def ChAt (K : PySem.W.Frag) (H : Hp) (x : Addr) (cs : List Rt) : Prop := ∃ dx t as, H x = some (.ins (He.ga K "Chances") dx (putF "ratios" (.ref t) [])) ∧ SqT K H t (as.map V.ref) ∧ RatsAt K H as cs
theorem RatsAt.x {K : PySem.W.Frag} {H H' : Hp} {as : List Addr} {cs : List Rt} (h : RatsAt K H as cs) (e : SameX H H') : RatsAt K H' as cs := Pd.imp (fun _ _ q => RatAt.x q e) h
theorem ChAt.x {K : PySem.W.Frag} {H H' : Hp} {x : Addr} {cs : List Rt} (h : ChAt K H x cs) (e : SameX H H') : ChAt K H' x cs :=
  let ⟨dx, t, as, h1, h2, h3⟩ := h
  ⟨dx, t, as, e _ _ h1 (fun _ q => by cases q), SameX.tup e h2, h3.x e⟩
theorem ChAt.same {K : PySem.W.Frag} {H H' : Hp} {x : Addr} {cs : List Rt} (h : ChAt K H x cs) (e : Same H H') : ChAt K H' x cs := h.x e.x
theorem f1_get {a : Str} {x : V} : (putF a x []).lookup a = some x := by rw [lookup_putF, if_pos rfl]
theorem f1_no {a m : Str} {x : V} (h : ¬ m = a) : (putF a x []).lookup m = none := by rw [lookup_putF, if_neg h]; rfl
theorem rats_in {K : PySem.W.Frag} {H : Hp} {as : List Addr} {cs : List Rt} (h : RatsAt K H as cs) : Paired (fun (c : Rt) x => ∃ a : Addr, x = V.ref a ∧ RatAt K H a c.1 c.2) cs (as.map V.ref) :=
  pd_swap (pd_mapL (Pd.imp (fun a b h => ⟨a, rfl, h⟩) h))
theorem rats_out {K : PySem.W.Frag} {H : Hp} {cs : List Rt} {ys : List V} (h : Paired (fun (c : Rt) y => ∃ a : Addr, y = V.ref a ∧ RatAt K H a c.1 c.2) cs ys) : ∃ as : List Addr, ys = as.map V.ref ∧ RatsAt K H as cs := by
  obtain ⟨as, e, p⟩ := pd_refs h
  exact ⟨as, e, pd_swap p⟩
theorem rat_stay {K : PySem.W.Frag} (z : Rt) : Stay (fun y H => ∃ a : Addr, y = V.ref a ∧ RatAt K H a z.1 z.2) := fun v H H' e ⟨a, h1, h2⟩ => ⟨a, h1, h2.x e⟩
theorem OkC1.sm {c : Rt} (o : OkC1 c) : Sm c.1 ∧ Sm c.2 ∧ 0 < c.1 := by
  obtain ⟨⟨h1, _⟩, h2, h3, h4⟩ := o
  unfold Sm
  omega
section
variable {P : Program} {w : World} {K : PySem.W.Frag} {mg : Str → Option Value} {base : Heap}
/-! ### check_chance -/
def spChkCh (K : PySem.W.Frag) : Sp := fun us H Q _ => ∃ (x : Addr) (c : Rt), us = [.ref x] ∧ RatAt K H x c.1 c.2 ∧ OkC1 c ∧ ∀ H2, Same H H2 → Q (.ref x) H2
abbrev nm_chk : List Str := ["value"]
theorem sc_chk : FnScope nm_chk ["value"] (defScope s_check_chance) := ⟨rfl, rfl, rfl, by decide +kernel, rfl, by decide +kernel, by decide +kernel⟩
theorem r_chk (T : Ft K mg) : CalR P w K mg base 7 "check_chance" (spChkCh K) := by
  refine cal_of T.g_check_chance T.f_check_chance sc_chk (fun _ _ _ _ _ _ us hl => match us, hl with | [_], _ => rfl) (fun vs H Q E h => ?_) fun cdv A outer s H us Q E hr h => ?_
  · obtain ⟨_, _, rfl, _⟩ := h; rfl
  · obtain ⟨x, c, rfl, hx, ok, hq⟩ := h
    obtain ⟨dx, hx0⟩ := id hx
    obtain ⟨sm1, sm2, hp⟩ := ok.sm
    obtain ⟨fd, FH⟩ := T.f_half
    refine ⟨_, pss_cons (ps_if (PW.pt (pw_or (pt_not (pt_val (pe_callB call_isi rfl T.z_isinstance boot_isinstance (pa_cons (pv 0) (pa_cons (pe_glob (v := .ref (He.ga K "Ratio")) rfl T.g_Ratio rfl) pa_nil)))))
        (pw_or (pt_cmpR (op_cmpI (fun _ _ => rfl) (m_rlt T) rfl hr (by decide)) (pv 0) (pe_sm0 (fn_half T) rfl T.g_Ratio T.half_rd T.half_at FH.kp hr (by decide)) (nomark _))
        (pw_or (pt_cmpR (op_cmpI (fun _ _ => rfl) (m_rge T) rfl hr (by decide)) (pv 0) pe_int (nomark _))
        (pw_or1 (pt_cmp (pc_gt (pe_fldK K (pv 0)) (pe_gc rfl T.i_MOST_UNDER))))))))
      (pss_one ps_never) pss_nil) (pss_one (ps_ret (pv 0))), ?_⟩
    refine ⟨_, rfl, _, _, _, _, true, rfl, .own _, .base (T.ty_Ratio hx0), kit_self, true, rfl, ?_⟩
    refine iteF ?_
    refine ⟨_, rfl, rfl, fun y H1 hy0 e1 hy => ?_⟩
    obtain ⟨dy, hy1⟩ := id hy
    refine ⟨x, dx, _, rfl, e1 _ _ hx0, .inl ⟨y, dy, _, rfl, hy1⟩, x, .ref y, c.1, c.2, 1, 2, rfl, hx.same e1, .inl ⟨y, rfl, hy⟩, sm1, by unfold Sm; decide, fun H2 e2 => ⟨_, rfl, ?_⟩⟩
    have h1 := ok.half
    have h2 := ok.one
    have h3 := ok.eight
    refine iteFd (by omega) ?_
    have e12 := e1.trans e2
    refine ⟨_, rfl, x, dx, _, rfl, e12 _ _ hx0, .inr ⟨1, rfl⟩, x, .int 1, c.1, c.2, 1, 1, rfl, hx.same e12, .inr ⟨rfl, rfl⟩, sm1, by unfold Sm; decide, fun H3 e3 => ⟨_, rfl, ?_⟩⟩
    refine iteFd (by omega) ?_
    have e13 := e12.trans e3
    refine ⟨_, rfl, x, _, dx, _, _, rfl, e13 _ _ hx0, T.c_Ratio, T.n_Ratio_under, f2_b, _, _, rfl, rfl, _, rfl, ?_⟩
    refine iteFd (by omega) ?_
    exact ⟨_, rfl, hq H3 e13⟩
/-! ### Chances -/
def spChInit (K : PySem.W.Frag) : Sp := fun us H Q _ => ∃ (x dx t : Addr) (as : List Addr) (cs : List Rt), us = [.ref x, .ref t] ∧ H x = some (.ins (He.ga K "Chances") dx []) ∧ SqT K H t (as.map V.ref) ∧ RatsAt K H as cs ∧ OkC cs ∧
  ∀ H', (∀ b o, H b = some o → b ≠ x → H' b = some o) → ChAt K H' x cs → Q .non H'
abbrev nm_ch : List Str := ["self", "chances", "chance"]
theorem sc_ch : FnScope nm_ch ["self", "chances"] (defScope s_Chances_init) := ⟨rfl, rfl, rfl, by decide +kernel, rfl, by decide +kernel, by decide +kernel⟩
theorem body_ch (T : Ft K mg) (f : Addr) : Body P w K mg base "Chances.__init__" s_Chances_init f nm_ch 7 (spChInit K) := by
  intro cdv A outer s H us Q E hr h
  obtain ⟨x, dx, t, as, cs, rfl, hx, ht, hc, ok, hq⟩ := h
  have hlen : as.length = cs.length := Pd.len hc
  have n1 := ok.n1
  have n4 := ok.n4
  refine ⟨_, pss_cons (ps_expr (pe_cr (r_check_number T) hr (by decide) rfl (pa_cons pe_str (pa_cons (pe_callB (call_lenK K) rfl T.z_len boot_len (pa_cons (pv 1) pa_nil)) (pa_cons pe_int (pa_cons (pe_gc rfl T.i_MOST_COPIES) pa_nil))))))
    (pss_one (ps_fld (pv 0) (pe_callTy call_tuple_of rfl T.z_tuple boot_tuple (pa_cons
      (pe_lc (own := [("chance", 2)]) (g := gName 2) rfl sc_ch.nd (pi_tup (pv 1)) (blkOk_by (N := nm_ch) (sc := defScope s_Chances_init) (by decide +kernel)) (fun _ _ _ _ _ => pg_name (i := 2) sc_ch.nd rfl (.inl rfl))
          (fun _ _ _ _ _ => pts_nil) (fun _ _ _ _ _ => pe_cr (r_chk T) hr (by decide) rfl (pa_cons (pv 2) pa_nil))) pa_nil)) rfl)), ?_⟩
  refine ⟨_, rfl, t, _, rfl, .inr ht, _, _, _, _, (as.map V.ref).length, some 1, some 8, rfl, rfl, rfl, rfl, by rintro _ ⟨⟩; rw [List.length_map]; omega, by rintro _ ⟨⟩; rw [List.length_map]; omega, ?_⟩
  refine ⟨_, rfl, t, rfl, ⟨_, ht⟩, ?_⟩
  refine fun D hD => lc_pure (zs := cs) (I := fun (c : Rt) y => ∃ a : Addr, y = V.ref a ∧ RatAt K H a c.1 c.2) (fun _ => true) (fun (c : Rt) y H' => ∃ a : Addr, y = V.ref a ∧ RatAt K H' a c.1 c.2) rat_stay
      (walk_tup ht) (rats_in hc) (by rw [List.length_map]; omega) (fun _ => rfl) (fun z x H1 e1 hz hI Q' q' => q' _ (Same.refl _)) ?_ hD ?_
  · rintro c y H2 e2 m ⟨a, rfl, ha⟩ _ Q' q'
    exact ⟨_, rfl, a, c, rfl, ha.same e2, ok.all c m, fun H3 e3 => q' _ _ e3 ⟨a, rfl, (ha.same e2).same e3⟩⟩
  · intro H2 ys e2 hys hp2
    rw [List.filter_eq_self.mpr (fun _ _ => rfl)] at hp2
    obtain ⟨bs, rfl, hb⟩ := rats_out hp2
    refine ⟨D, _, rfl, .inl ⟨SqL.of hys, fun tt htt => ?_⟩⟩
    have e3 : Same H2 (upd H2 tt (.tup (bs.map V.ref))) := Same.new htt
    have hx3 := (e2.trans e3) _ _ hx
    refine ⟨_, rfl, x, _, dx, _, rfl, hx3, T.c_Chances, T.n_Chances_ratios, (by show 0 < 1000; decide), ?_⟩
    have hxt : tt ≠ x := fun e => by rw [← e] at hx; rw [(e2 _ _ hx)] at htt; cases htt
    refine hq _ (fun b o hb hbx => by rw [upd_ne hbx]; exact (e2.trans e3) _ _ hb) ⟨dx, tt, bs, upd_same, SqT.of (by rw [upd_ne hxt]; exact upd_same), ?_⟩
    refine Pd.imp (fun a (c : Rt) q => ?_) (hb.x e3.x)
    obtain ⟨da, q⟩ := q
    by_cases h : a = x
    · rw [h, hx3] at q
      injection q with q
      injection q with q1 q2 q3
      have := congrArg (List.lookup ("under" : Str)) q3
      rw [f2_b] at this
      cases this
    · exact ⟨da, by rw [upd_ne h]; exact q⟩
theorem mk_ch (T : Ft K mg) : MakR P w K mg base 8 "Chances" (He.ga K "Chances") (spStar1 (spChInit K)) :=
  ⟨_, T.m_Chances, fnr_star1 T.f_Chances_init sc_ch (fun _ _ _ _ _ _ _ => rfl) (fun _ _ _ _ _ _ _ _ _ => rfl) (body_ch T _), T.g_Chances⟩
theorem ch_k {us : List V} {H : Hp} {G : Addr → Hp → Prop} (h : ∃ (as : List Addr) (cs : List Rt), us = as.map V.ref ∧ RatsAt K H as cs ∧ OkC cs ∧ ∀ x H2, H x = none → Same H H2 → ChAt K H2 x cs → G x H2) :
    ∀ x dx, H x = none → H dx = none → dx ≠ x → spStar1 (spChInit K) (V.ref x :: us) (upd (upd H dx (.own x)) x (.ins (He.ga K "Chances") dx [])) (fun v H2 => v = .non ∧ G x H2) E0 := by
  obtain ⟨as, cs, rfl, hc, ok, hq⟩ := h
  intro x dx hx hdx hne
  refine ⟨[.ref x], as.map V.ref, rfl, rfl, ?_, fun p hp => ?_⟩
  · rw [List.length_map, Pd.len hc]
    have := ok.n4
    exact line_of (by omega)
  · have e1 : Same H (upd (upd H dx (.own x)) x (.ins (He.ga K "Chances") dx [])) := Same.mut (Same.new hdx) hx
    have e2 : Same H (upd (upd (upd H dx (.own x)) x (.ins (He.ga K "Chances") dx [])) p (.tup (as.map V.ref))) := e1.trans (Same.new hp)
    refine ⟨x, dx, p, as, cs, rfl, ?_, SqT.of upd_same, hc.x e2.x, ok, fun H' hk hf => ⟨rfl, hq x H' hx (fun b o hb => hk b o (e2 b o hb) (fun z => by rw [z, hx] at hb; cases hb)) hf⟩⟩
    rw [upd_ne (ne_of_none upd_same hp)]
    exact upd_same
/-! ### len, + -/
def spChLen (K : PySem.W.Frag) : Sp := fun us H Q _ => ∃ (x : Addr) (cs : List Rt), us = [.ref x] ∧ ChAt K H x cs ∧ Q (vi cs.length) H
abbrev nm_chlen : List Str := ["self"]
theorem sc_chlen : FnScope nm_chlen ["self"] (defScope s_Chances_len) := ⟨rfl, rfl, rfl, by decide +kernel, rfl, by decide +kernel, by decide +kernel⟩
theorem m_chlen (T : Ft K mg) : MetR P w K mg base 1 (He.ga K "Chances") "__len__" (spChLen K) := by
  refine met_of T.c_Chances T.t_Chances_len T.f_Chances_len sc_chlen (fun _ _ _ _ _ _ us hl => match us, hl with | [_], _ => rfl) (fun vs H Q E h => ?_) fun cdv A outer s H us Q E hr h => ?_
  · obtain ⟨_, _, rfl, _⟩ := h; rfl
  · obtain ⟨x, cs, rfl, ⟨dx, t, as, hx, ht, hc⟩, hq⟩ := h
    refine ⟨_, pss_one (ps_ret (pe_callB (call_lenK K) rfl T.z_len boot_len (pa_cons (pe_fldK K (pv 0)) pa_nil))), ?_⟩
    refine ⟨_, rfl, x, _, dx, _, _, rfl, hx, T.c_Chances, T.n_Chances_ratios, f1_get, t, _, rfl, .inr ht, ?_⟩
    rw [List.length_map, Pd.len hc]
    exact hq
def spChAdd (K : PySem.W.Frag) : Sp := fun us H Q _ => ∃ (x y : Addr) (cs ds : List Rt), us = [.ref x, .ref y] ∧ ChAt K H x cs ∧ ChAt K H y ds ∧ cs ≠ [] ∧ ds ≠ [] ∧ OkC (cs ++ ds) ∧ ∀ z H2, H z = none → Same H H2 → ChAt K H2 z (cs ++ ds) → Q (.ref z) H2
abbrev nm_chadd : List Str := ["self", "other", "ratios"]
theorem sc_chadd : FnScope nm_chadd ["self", "other"] (defScope s_Chances_add) := ⟨rfl, rfl, rfl, by decide +kernel, rfl, by decide +kernel, by decide +kernel⟩
theorem m_chadd (T : Ft K mg) : MetR P w K mg base 10 (He.ga K "Chances") "__add__" (spChAdd K) := by
  refine met_of T.c_Chances T.t_Chances_add T.f_Chances_add sc_chadd (fun _ _ _ _ _ _ us hl => match us, hl with | [_, _], _ => rfl) (fun vs H Q E h => ?_) fun cdv A outer s H us Q E hr h => ?_
  · obtain ⟨_, _, _, _, rfl, _⟩ := h; rfl
  · obtain ⟨x, y, cs, ds, rfl, ⟨dx, t, as, hx, ht, hc⟩, ⟨dy, u, bs, hy, hu, hd⟩, hn1, hn2, ok, hq⟩ := h
    have n4 := ok.n4
    rw [List.length_append] at n4
    refine ⟨_, pss_cons (ps_if (pt_not (pt_val (pe_callB call_isi rfl T.z_isinstance boot_isinstance (pa_cons (pv 1) (pa_cons (pe_glob (v := .ref (He.ga K "Chances")) rfl T.g_Chances rfl) pa_nil))))) (pss_one ps_never) pss_nil)
      (pss_cons (ps_set (i := 2) sc_chadd.nd rfl (.inl rfl) (pe_op (op_catK K) (pe_fldK K (pv 0)) (pe_fldK K (pv 1))))
      (pss_one (ps_ret (pe_krS1 (mk_ch T) hr (by decide) rfl (pv 2))))), ?_⟩
    refine ⟨_, rfl, _, _, _, _, true, rfl, .own _, .base (T.ty_Chances hy), kit_self, true, rfl, ?_⟩
    refine iteF ?_
    have h1 : (as.map V.ref).length = cs.length := by rw [List.length_map, Pd.len hc]
    have h2 : (bs.map V.ref).length = ds.length := by rw [List.length_map, Pd.len hd]
    refine ⟨_, rfl, x, _, dx, _, _, rfl, hx, T.c_Chances, T.n_Chances_ratios, f1_get, _, rfl, y, _, dy, _, _, rfl, hy, T.c_Chances, T.n_Chances_ratios, f1_get, t, u, _, _, rfl, rfl, ht, hu, line_of (by omega), ?_, ?_, ?_⟩
    · intro e
      rw [e] at h1
      exact absurd (List.eq_nil_of_length_eq_zero h1.symm) hn1
    · intro _ e
      rw [e] at h2
      exact absurd (List.eq_nil_of_length_eq_zero h2.symm) hn2
    · intro _ _ p hp
      have e : Same H (upd H p (.tup (as.map V.ref ++ bs.map V.ref))) := Same.new hp
      refine ⟨_, rfl, p, (as ++ bs).map V.ref, rfl, .inl (SqT.of (by rw [List.map_append]; exact upd_same)), ?_⟩
      exact ch_k ⟨as ++ bs, cs ++ ds, rfl, Pd.app (hc.x e.x) (hd.x e.x), ok, fun z H2 hz e2 r => hq z H2 (e.free hz) (e.trans e2) r⟩
end
end K72

-- K72Gain
set_option Elab.async false
set_option linter.all false
set_option maxRecDepth 100000
set_option maxHeartbeats 4000000
/-! chances.py: chance_of; worth.py. -/
namespace K72
open PySem PySem.Spec PyProof.Rows L2
/-! ### numbers -/
theorem under_pos {cs : List Rt} (h : ∀ c ∈ cs, OkC1 c) : 0 < underN cs ∧ (underN cs).natAbs ≤ 8 ^ cs.length := by
  induction cs with
  | nil => exact ⟨by decide, by decide⟩
  | cons c r ih =>
    obtain ⟨h1, h2⟩ := ih fun d hd => h d (List.mem_cons_of_mem _ hd)
    have o := h c List.mem_cons_self
    have e : underN (c :: r) = c.2 * underN r := rfl
    rw [e]
    refine ⟨Int.mul_pos o.ok.pos h1, ?_⟩
    rw [Int.natAbs_mul, List.length_cons, Nat.pow_succ, Nat.mul_comm (8 ^ r.length)]
    exact Nat.mul_le_mul (by have := o.eight; have := o.ok.pos; omega) h2
theorem over_pos {lot : List Nat} {cs : List Rt} (h : ∀ c ∈ cs, OkC1 c) : ∀ i, 0 < overN lot i cs ∧ (overN lot i cs).natAbs ≤ 8 ^ cs.length := by
  induction cs with
  | nil => intro i; exact ⟨by show (0 : Int) < 1; decide, by show (1 : Int).natAbs ≤ 8 ^ 0; decide⟩
  | cons c r ih =>
    intro i
    obtain ⟨h1, h2⟩ := ih (fun d hd => h d (List.mem_cons_of_mem _ hd)) (i + 1)
    have o := h c List.mem_cons_self
    have o1 := o.half
    have o2 := o.one
    have o3 := o.eight
    have o4 := o.ok.pos
    show 0 < (if lot.contains i then c.1 else c.2 - c.1) * overN lot (i + 1) r ∧ _
    have hf : 0 < (if lot.contains i then c.1 else c.2 - c.1) ∧ (if lot.contains i then c.1 else c.2 - c.1) ≤ 8 := by
      split <;> omega
    refine ⟨Int.mul_pos hf.1 h1, ?_⟩
    show ((if lot.contains i then c.1 else c.2 - c.1) * overN lot (i + 1) r).natAbs ≤ _
    rw [Int.natAbs_mul, List.length_cons, Nat.pow_succ, Nat.mul_comm (8 ^ r.length)]
    exact Nat.mul_le_mul (by omega) h2
theorem p84 {n : Nat} (h : n ≤ 4) : 8 ^ n ≤ 4096 := Nat.le_trans (Nat.pow_le_pow_right (by decide) h) (by decide)
/-- o / u is A / B -/
def Eqv (o u A B : Int) : Prop := o * B = A * u
theorem Norm.eqv {a b o u : Int} (n : Norm a b o u) : Eqv o u a b := n.eq
theorem eqv_mul {o1 u1 A1 B1 o2 u2 A2 B2 o u : Int} (h1 : Eqv o1 u1 A1 B1) (h2 : Eqv o2 u2 A2 B2) (n : Norm (o1 * o2) (u1 * u2) o u) (p : 0 < u1 * u2) : Eqv o u (A1 * A2) (B1 * B2) := by
  unfold Eqv at *
  have e := n.eq
  apply Int.eq_of_mul_eq_mul_right (a := u1 * u2) (by omega)
  calc o * (B1 * B2) * (u1 * u2) = (o * (u1 * u2)) * (B1 * B2) := by ac_rfl
    _ = (o1 * o2 * u) * (B1 * B2) := by rw [e]
    _ = (o1 * B1) * (o2 * B2) * u := by ac_rfl
    _ = (A1 * u1) * (A2 * u2) * u := by rw [h1, h2]
    _ = A1 * A2 * u * (u1 * u2) := by ac_rfl
/-- the sign of a difference of two with one denominator -/
theorem sub_sign {a1 b1 a2 b2 o u A B D : Int} (h1 : Eqv a1 b1 A D) (h2 : Eqv a2 b2 B D) (n : Norm (a1 * b2 - a2 * b1) (b1 * b2) o u) (p1 : 0 < b1) (p2 : 0 < b2) (pd : 0 < D) : (0 < o ↔ B < A) ∧ (0 ≤ o ↔ B ≤ A) := by
  unfold Eqv at h1 h2
  have pb : 0 < b1 * b2 := Int.mul_pos p1 p2
  have key : o * ((b1 * b2) * D) = (A - B) * (b1 * b2 * u) := by
    calc o * ((b1 * b2) * D) = (o * (b1 * b2)) * D := by ac_rfl
      _ = (a1 * b2 - a2 * b1) * u * D := by rw [n.eq]
      _ = (a1 * D) * b2 * u - (a2 * D) * b1 * u := by rw [Int.sub_mul, Int.sub_mul]; congr 1 <;> ac_rfl
      _ = (A * b1) * b2 * u - (B * b2) * b1 * u := by rw [h1, h2]
      _ = (A - B) * (b1 * b2 * u) := by rw [Int.sub_mul]; congr 1 <;> ac_rfl
  have q1 : 0 < (b1 * b2) * D := Int.mul_pos pb pd
  have q2 : 0 < b1 * b2 * u := Int.mul_pos pb n.ok.pos
  generalize (b1 * b2) * D = X at *
  generalize b1 * b2 * u = Y at *
  constructor
  · constructor
    · intro h
      have := Int.mul_pos h q1
      rw [key] at this
      have := Int.pos_of_mul_pos_left this q2
      omega
    · intro h
      have : 0 < (A - B) * Y := Int.mul_pos (by omega) q2
      rw [← key] at this
      exact Int.pos_of_mul_pos_left this q1
  · constructor
    · intro h
      have := Int.mul_nonneg h (Int.le_of_lt q1)
      rw [key] at this
      have := Int.nonneg_of_mul_nonneg_left this q2
      omega
    · intro h
      have : 0 ≤ (A - B) * Y := Int.mul_nonneg (by omega) (Int.le_of_lt q2)
      rw [← key] at this
      exact Int.nonneg_of_mul_nonneg_left this q1
end K72

-- K72Gain2
set_option Elab.async false
set_option linter.all false
set_option maxRecDepth 100000
set_option maxHeartbeats 4000000
/-! chances.py: chance_of; worth.py: check_share, gain_of. -/
namespace K72
open PySem PySem.Spec PyProof.Rows L2
section
variable {P : Program} {w : World} {K : PySem.W.Frag} {mg : Str → Option Value} {base : Heap}
theorem inTup {K : PySem.W.Frag} {c : Nat} {l : List Nat} {H : Hp} {a : Addr} {Q : VK} (h : LT K H a l) (q : Q (.bl (l.contains c)) H) : rIn K false (vi c) (.ref a) H Q := by
  refine ⟨a, _, rfl, .inr h, rfl, flat_vi _, ?_⟩
  rw [if_neg Bool.false_ne_true, inV_vi]
  exact q
def spChOf (K : PySem.W.Frag) : Sp := fun us H Q _ => ∃ (x a : Addr) (cs : List Rt) (l : List Nat), us = [.ref x, .ref a] ∧ ChAt K H x cs ∧ OkC cs ∧ LT K H a l ∧ ∀ z H2 o u, H z = none → Same H H2 → Norm (overN l 0 cs) (underN cs) o u → RatAt K H2 z o u → Q (.ref z) H2
abbrev nm_chof : List Str := ["self", "lot", "over", "under", "copy", "ratio"]
theorem sc_chof : FnScope nm_chof ["self", "lot"] (defScope s_Chances_chance_of) := ⟨rfl, rfl, rfl, by decide +kernel, rfl, by decide +kernel, by decide +kernel⟩
theorem m_chof (T : Ft K mg) : MetR P w K mg base 5 (He.ga K "Chances") "chance_of" (spChOf K) := by
  refine met_of T.c_Chances T.t_Chances_chance_of T.f_Chances_chance_of sc_chof (fun _ _ _ _ _ _ us hl => match us, hl with | [_, _], _ => rfl) (fun vs H Q E h => ?_) fun cdv A outer s H us Q E hr h => ?_
  · obtain ⟨_, _, _, _, rfl, _⟩ := h; rfl
  · obtain ⟨x, a, cs, l, rfl, ⟨dx, t, as, hx, ht, hc⟩, ok, ha, hq⟩ := h
    refine ⟨_, pss_cons (ps_set (i := 2) sc_chof.nd rfl (.inl rfl) pe_int)
      (pss_cons (ps_set (i := 3) sc_chof.nd rfl (.inl rfl) pe_int)
      (pss_cons (ps_for PassesOwn.never rfl (pi_enumT rfl T.z_enumerate (pa_cons (pe_fldK K (pv 0)) pa_nil)) (pg_tup rfl (pgs_cons (pg_name (i := 4) sc_chof.nd rfl (.inl rfl)) (pgs_cons (pg_name (i := 5) sc_chof.nd rfl (.inl rfl)) pgs_nil)))
        (pss_cons (ps_aug (i := 2) sc_chof.nd rfl (.inl rfl) (pe_ifExp (pt_cmpR (op_inK K) (pv 4) (pv 1) rfl) (pe_fldK K (pv 5)) (pe_op op_sub (pe_fldK K (pv 5)) (pe_fldK K (pv 5)))) ip_mulI)
        (pss_one (ps_aug (i := 3) sc_chof.nd rfl (.inl rfl) (pe_fldK K (pv 5)) ip_mulI))))
      (pss_one (ps_ret (pe_kr (mk_rat T) hr (by decide) rfl (pa_cons (pv 2) (pa_cons (pv 3) pa_nil))))))), ?_⟩
    have hlen : as.length = cs.length := Pd.len hc
    have n4 := ok.n4
    refine ⟨_, rfl, x, _, dx, _, _, rfl, hx, T.c_Chances, T.n_Chances_ratios, f1_get, t, _, rfl, ht, ?_⟩
    refine for_enumT (xs := as.map V.ref) (fun i σ H' => Same H H' ∧ ∃ (v4 v5 : Option V) (ov un : Int), σ = [some (.ref x), some (.ref a), some (.int ov), some (.int un), v4, v5] ∧ ov * overN l i (cs.drop i) = overN l 0 cs ∧ un * underN (cs.drop i) = underN cs)
      ⟨Same.refl _, none, none, 1, 1, rfl, by rw [Int.one_mul]; rfl, by rw [Int.one_mul]; rfl⟩ (fun i σ H' h => Same.tup h.1 ht) ?_ ?_
    · rintro i y σ H1 Ta hy ⟨e1, v4, v5, ov, un, rfl, ho, hu⟩ hT
      rw [List.getElem?_map] at hy
      obtain ⟨b, hb, rfl⟩ := Option.map_eq_some_iff.mp hy
      obtain ⟨c, hci, hcb⟩ := Pd.at (pd_swap hc) hb
      have okc := ok.all c (List.mem_of_getElem? hci)
      obtain ⟨sm1, sm2, sm3⟩ := okc.sm
      have e2 : Same H (upd H1 Ta (.tup [.int (i : Nat), .ref b])) := e1.trans (Same.new hT)
      obtain ⟨db, hb2⟩ := hcb.same e2
      have hdrop : cs.drop i = c :: cs.drop (i + 1) := by
        have hlt := (List.getElem?_eq_some_iff.mp hci).1
        rw [List.drop_eq_getElem_cons hlt]
        congr 1
        exact (List.getElem?_eq_some_iff.mp hci).2
      refine ⟨Ta, _, rfl, SqT.of upd_same, rfl, _, _, rfl, _, _, rfl, rfl, ?_⟩
      have fin : ∀ f : Int, f = (if l.contains i then c.1 else c.2 - c.1) →
          ∃ i1 j1 : Int, V.int ov = V.int i1 ∧ V.int f = V.int j1 ∧ CMul i1 j1 ∧ (tAug 3 (tFld K (tVar 5) "under") (fun x y H Q => ∃ i j : Int, x = .int i ∧ y = .int j ∧ CMul i j ∧ Q (.int (i * j)) H)) { nx := fun σ H' => Same H H' ∧ ∃ (v4 v5 : Option V) (ov un : Int), σ = [some (.ref x), some (.ref a), some (.int ov), some (.int un), v4, v5] ∧ ov * overN l (i + 1) (cs.drop (i + 1)) = overN l 0 cs ∧ un * underN (cs.drop (i + 1)) = underN cs, rt := fun _ _ => True } ([some (V.ref x), some (V.ref a), some (V.int (i1 * j1)), some (V.int un), some (V.int (i : Nat)), some (V.ref b)]) (upd H1 Ta (.tup [.int (i : Nat), .ref b])) := by
        intro f hf
        refine ⟨ov, f, rfl, rfl, .inr ⟨?_, ?_⟩, _, rfl, _, rfl, b, _, db, _, _, rfl, hb2, T.c_Ratio, T.n_Ratio_under, f2_b, un, c.2, rfl, rfl, .inr ⟨?_, ?_⟩, e2, _, _, ov * f, un * c.2, rfl, ?_, ?_⟩
        · have := okc.one; have := okc.eight; have := okc.ok.pos; rw [hf]; split <;> omega
        · have := okc.one; have := okc.eight; have := okc.ok.pos; rw [hf]; split <;> omega
        · have := okc.eight; have := okc.ok.pos; omega
        · have := okc.eight; have := okc.ok.pos; omega
        · rw [← ho, hdrop, hf]
          show _ = ov * ((if l.contains i then c.1 else c.2 - c.1) * overN l (i + 1) (cs.drop (i + 1)))
          rw [Int.mul_assoc]
        · rw [← hu, hdrop]
          show _ = un * (c.2 * underN (cs.drop (i + 1)))
          rw [Int.mul_assoc]
      refine ⟨_, rfl, ?_⟩
      refine ⟨_, rfl, _, rfl, inTup (c := i) (LT.same ha e2) ⟨_, rfl, ?_⟩⟩
      by_cases hin : l.contains i = true
      · refine iteTb hin ?_
        refine ⟨_, rfl, b, _, db, _, _, rfl, hb2, T.c_Ratio, T.n_Ratio_over, f2_a (by decide), ?_⟩
        exact fin c.1 (by rw [if_pos hin])
      · refine iteFb (by simpa using hin) ?_
        refine ⟨_, rfl, b, _, db, _, _, rfl, hb2, T.c_Ratio, T.n_Ratio_under, f2_b, _, rfl, b, _, db, _, _, rfl, hb2, T.c_Ratio, T.n_Ratio_over, f2_a (by decide), c.2, c.1, rfl, rfl, ?_⟩
        exact fin (c.2 - c.1) (by rw [if_neg hin])
    · rintro σ H1 ⟨e1, v4, v5, ov, un, rfl, ho, hu⟩
      rw [List.length_map, hlen, List.drop_length] at ho hu
      have ho2 : ov = overN l 0 cs := by rw [← ho]; show _ = ov * 1; rw [Int.mul_one]
      have hu2 : un = underN cs := by rw [← hu]; show _ = un * 1; rw [Int.mul_one]
      subst ho2 hu2
      obtain ⟨p1, p2⟩ := under_pos ok.all
      have := p84 n4
      refine ⟨_, rfl, _, rfl, ?_⟩
      exact rat_k ⟨_, _, rfl, p1, by omega, fun z H2 o u hz e2 n r => hq z H2 o u (e1.free hz) (e1.trans e2) n r⟩
/-! ### share -/
structure OkS (s : Rt) : Prop where
  ok : OkR s.1 s.2
  lo : 0 ≤ s.1
  le : s.1 ≤ s.2
  eight : s.2 ≤ 8
def spChkS (K : PySem.W.Frag) : Sp := fun us H Q _ => ∃ (x : Addr) (c : Rt), us = [.ref x] ∧ RatAt K H x c.1 c.2 ∧ OkS c ∧ ∀ H2, Same H H2 → Q (.ref x) H2
abbrev nm_chks : List Str := ["share"]
theorem sc_chks : FnScope nm_chks ["share"] (defScope s_check_share) := ⟨rfl, rfl, rfl, by decide +kernel, rfl, by decide +kernel, by decide +kernel⟩
theorem r_chks (T : Ft K mg) : CalR P w K mg base 7 "check_share" (spChkS K) := by
  refine cal_of T.g_check_share T.f_check_share sc_chks (fun _ _ _ _ _ _ us hl => match us, hl with | [_], _ => rfl) (fun vs H Q E h => ?_) fun cdv A outer s H us Q E hr h => ?_
  · obtain ⟨_, _, rfl, _⟩ := h; rfl
  · obtain ⟨x, c, rfl, hx, ok, hq⟩ := h
    obtain ⟨dx, hx0⟩ := id hx
    obtain ⟨⟨h1, h0⟩, h2, h3, h4⟩ := ok
    have sm1 : Sm c.1 := by unfold Sm; omega
    refine ⟨_, pss_cons (ps_if (PW.pt (pw_or (pt_not (pt_val (pe_callB call_isi rfl T.z_isinstance boot_isinstance (pa_cons (pv 0) (pa_cons (pe_glob (v := .ref (He.ga K "Ratio")) rfl T.g_Ratio rfl) pa_nil)))))
        (pw_or (pt_cmpR (op_cmpI (fun _ _ => rfl) (m_rlt T) rfl hr (by decide)) (pv 0) pe_int (nomark _))
        (pw_or (pt_cmpR (op_cmpI (fun _ _ => rfl) (m_rgt T) rfl hr (by decide)) (pv 0) pe_int (nomark _))
        (pw_or1 (pt_cmp (pc_gt (pe_fldK K (pv 0)) (pe_gc rfl T.i_MOST_UNDER))))))))
      (pss_one ps_never) pss_nil) (pss_one (ps_ret (pv 0))), ?_⟩
    refine ⟨_, rfl, _, _, _, _, true, rfl, .own _, .base (T.ty_Ratio hx0), kit_self, true, rfl, ?_⟩
    refine iteF ?_
    refine ⟨_, rfl, x, dx, _, rfl, hx0, .inr ⟨0, rfl⟩, x, .int 0, c.1, c.2, 0, 1, rfl, hx, .inr ⟨rfl, rfl⟩, sm1, by unfold Sm; decide, fun H2 e2 => ⟨_, rfl, ?_⟩⟩
    refine iteFd (by omega) ?_
    refine ⟨_, rfl, x, dx, _, rfl, e2 _ _ hx0, .inr ⟨1, rfl⟩, x, .int 1, c.1, c.2, 1, 1, rfl, hx.same e2, .inr ⟨rfl, rfl⟩, sm1, by unfold Sm; decide, fun H3 e3 => ⟨_, rfl, ?_⟩⟩
    refine iteFd (by omega) ?_
    have e13 := e2.trans e3
    refine ⟨_, rfl, x, _, dx, _, _, rfl, e13 _ _ hx0, T.c_Ratio, T.n_Ratio_under, f2_b, _, _, rfl, rfl, _, rfl, ?_⟩
    refine iteFd (by omega) ?_
    exact ⟨_, rfl, hq H3 e13⟩
/-! ### gain_of -/
/-- what is gained where just the lot holds, but for a positive divisor -/
def gainN (cs : List Rt) (s : Rt) (l : List Nat) : Int := (s.2 - s.1) * overN l 0 cs - s.1 * overN (others cs.length l) 0 cs
def spGain (K : PySem.W.Frag) : Sp := fun us H Q _ => ∃ (x y a : Addr) (cs : List Rt) (s : Rt) (l : List Nat), us = [.ref x, .ref y, .ref a] ∧ ChAt K H x cs ∧ OkC cs ∧ RatAt K H y s.1 s.2 ∧ OkS s ∧ LT K H a l ∧ l ∈ allLots cs.length ∧
  ∀ z H2 o u, Same H H2 → S31 o → 0 < u → (0 < o ↔ 0 < gainN cs s l) → (0 ≤ o ↔ 0 ≤ gainN cs s l) → RatAt K H2 z o u → Q (.ref z) H2
abbrev nm_gain : List Str := ["chances", "share", "lot"]
theorem sc_gain : FnScope nm_gain ["chances", "share", "lot"] (defScope s_gain_of) := ⟨rfl, rfl, rfl, by decide +kernel, rfl, by decide +kernel, by decide +kernel⟩
theorem nab {a b : Int} {m n : Nat} (h1 : a.natAbs ≤ m) (h2 : b.natAbs ≤ n) : (a * b).natAbs ≤ m * n := by rw [Int.natAbs_mul]; exact Nat.mul_le_mul h1 h2
theorem r_gain (T : Ft K mg) : CalR P w K mg base 9 "gain_of" (spGain K) := by
  refine cal_of T.g_gain_of T.f_gain_of sc_gain (fun _ _ _ _ _ _ us hl => match us, hl with | [_, _, _], _ => rfl) (fun vs H Q E h => ?_) fun cdv A outer s0 H us Q E hr h => ?_
  · obtain ⟨_, _, _, _, _, _, rfl, _⟩ := h; rfl
  · obtain ⟨x, y, a, cs, s, l, rfl, hx, okc, hy, oks, ha, hl, hq⟩ := h
    obtain ⟨dx, t, as, hx1, _, _⟩ := id hx
    obtain ⟨dy, hy1⟩ := id hy
    obtain ⟨⟨s1, s0'⟩, s2, s3, s4⟩ := oks
    have n4 := okc.n4
    have n1 := okc.n1
    obtain ⟨u1, u2⟩ := under_pos okc.all
    obtain ⟨v1, v2⟩ := over_pos (lot := l) okc.all 0
    obtain ⟨w1, w2⟩ := over_pos (lot := others cs.length l) okc.all 0
    have p4 := p84 n4
    refine ⟨_, pss_one (ps_ret (pe_op (op_binI (m_rsub T) T.first_Ratio rfl hr (by decide))
      (pe_op (op_binI (m_rmul T) T.first_Ratio rfl hr (by decide)) (pe_op (op_rsubI (m_rrsub T) T.t_Ratio_sub T.first_Ratio T.sub_int hr (by decide)) pe_int (pv 1)) (pe_mr (m_chof T) hr (by decide) (pv 0) (pa_cons (pv 2) pa_nil)))
      (pe_op (op_binI (m_rmul T) T.first_Ratio rfl hr (by decide)) (pv 1) (pe_mr (m_chof T) hr (by decide) (pv 0) (pa_cons (pe_cr (r_others T) hr (by decide) rfl (pa_cons (pe_callB (call_lenI (m_chlen T) hr (by decide)) rfl T.z_len boot_len (pa_cons (pv 0) pa_nil)) (pa_cons (pv 2) pa_nil))) pa_nil))))), ?_⟩
    refine ⟨_, rfl, 1, y, dy, _, rfl, rfl, hy1, y, 1, s.1, s.2, rfl, hy, by unfold S31; omega, by unfold S31; omega, by unfold S31; omega, s1, fun z1 H1 o1 b1 hz1 e1 N1 r1 => ?_⟩
    refine ⟨_, rfl, x, dx, _, rfl, e1 _ _ hx1, f1_no (by decide), _, rfl, x, a, cs, l, rfl, hx.same e1, okc, LT.same ha e1, fun z2 H2 o2 b2 hz2 e2 N2 r2 => ?_⟩
    obtain ⟨d1, r1'⟩ := r1.same e2
    obtain ⟨d2, r2'⟩ := id r2
    have B1 : o1.natAbs ≤ 8 := Nat.le_trans N1.ab (by omega)
    have C1 : b1.natAbs ≤ 8 := by have := N1.le; have := N1.ok.pos; omega
    have B2 : o2.natAbs ≤ 4096 := Nat.le_trans N2.ab (Nat.le_trans v2 p4)
    have C2 : b2.natAbs ≤ 4096 := by have := N2.le; have := N2.ok.pos; omega
    refine ⟨z1, d1, _, z2, d2, _, rfl, rfl, r1', r2', z1, .ref z2, o1, b1, o2, b2, rfl, ⟨d1, r1'⟩, .inl ⟨z2, rfl, r2⟩, by unfold S31; omega, by unfold S31; omega, by unfold S31; omega, by unfold S31; omega, N1.ok.pos, N2.ok.pos, fun z3 H3 o3 b3 hz3 e3 N3 r3 => ?_⟩
    have e13 := (e1.trans e2).trans e3
    refine ⟨_, rfl, _, rfl, x, dx, _, rfl, e13 _ _ hx1, f1_no (by decide), ?_⟩
    refine ⟨_, rfl, x, dx, _, rfl, e13 _ _ hx1, x, cs, rfl, hx.same e13, cs.length, rfl, by omega, ?_⟩
    have hll := allLots_llen hl
    refine ⟨_, rfl, cs.length, a, l, rfl, n1, by omega, LT.same ha e13, allLots_lt hl, by omega, fun p H4 hp e4 hp4 => ?_⟩
    have e14 := e13.trans e4
    refine ⟨x, p, cs, others cs.length l, rfl, hx.same e14, okc, SqT.of hp4, fun z5 H5 o5 b5 hz5 e5 N5 r5 => ?_⟩
    have e15 := e14.trans e5
    obtain ⟨d5, r5'⟩ := id r5
    have B5 : o5.natAbs ≤ 4096 := Nat.le_trans N5.ab (Nat.le_trans w2 p4)
    have C5 : b5.natAbs ≤ 4096 := by have := N5.le; have := N5.ok.pos; omega
    refine ⟨y, dy, _, z5, d5, _, rfl, rfl, e15 _ _ hy1, r5', y, .ref z5, s.1, s.2, o5, b5, rfl, hy.same e15, .inl ⟨z5, rfl, r5⟩, by unfold S31; omega, by unfold S31; omega, by unfold S31; omega, by unfold S31; omega, s1, N5.ok.pos, fun z6 H6 o6 b6 hz6 e6 N6 r6 => ?_⟩
    have e36 := (e4.trans e5).trans e6
    obtain ⟨d3, r3'⟩ := r3.same e36
    obtain ⟨d6, r6'⟩ := id r6
    have q12 : 0 < b1 * b2 := Int.mul_pos N1.ok.pos N2.ok.pos
    have q56 : 0 < s.2 * b5 := Int.mul_pos s1 N5.ok.pos
    have B3 : o3.natAbs ≤ 32768 := Nat.le_trans N3.ab (nab B1 B2)
    have C3 : b3.natAbs ≤ 32768 := by
      have h1 := nab C1 C2
      have := N3.le
      have := N3.ok.pos
      omega
    have B6 : o6.natAbs ≤ 32768 := Nat.le_trans N6.ab (nab (m := 8) (n := 4096) (by omega) B5)
    have C6 : b6.natAbs ≤ 32768 := by
      have h1 := nab (a := s.2) (b := b5) (m := 8) (n := 4096) (by omega) C5
      have := N6.le
      have := N6.ok.pos
      omega
    refine ⟨z3, d3, _, z6, d6, _, rfl, rfl, r3', r6', z3, .ref z6, o3, b3, o6, b6, rfl, ⟨d3, r3'⟩, .inl ⟨z6, rfl, r6⟩, by unfold S31; omega, by unfold S31; omega, by unfold S31; omega, by unfold S31; omega, N3.ok.pos, N6.ok.pos, fun z H7 o u hz e7 N7 r7 => ?_⟩
    have E1 : Eqv o1 b1 (s.2 - s.1) s.2 := by have := N1.eq; unfold Eqv; simpa using this
    have E3 := eqv_mul E1 N2.eqv N3 q12
    have E6 := eqv_mul (o1 := s.1) (u1 := s.2) (A1 := s.1) (B1 := s.2) rfl N5.eqv N6 q56
    obtain ⟨g1, g2⟩ := sub_sign E3 E6 N7 N3.ok.pos N6.ok.pos (Int.mul_pos s1 u1)
    refine hq z H7 o u (((e15.trans e6)).trans e7) ?_ N7.ok.pos ?_ ?_ r7
    · have h1 := nab B3 C6
      have h2 := nab B6 C3
      have h3 : o.natAbs ≤ (o3 * b6 - o6 * b3).natAbs := N7.ab
      unfold S31
      have : (o3 * b6 - o6 * b3).natAbs ≤ (o3 * b6).natAbs + (o6 * b3).natAbs := by omega
      omega
    · rw [g1]; unfold gainN; omega
    · rw [g2]; unfold gainN; omega
end
end K72

-- K72DictT
set_option Elab.async false
set_option linter.all false
set_option maxRecDepth 100000
set_option maxHeartbeats 4000000
/-! {k: v for ..} with tuples as keys. -/
namespace K72
open PySem PySem.Spec PyProof.Rows L2
/-- a key that is a tuple is put into the dict at D -/
theorem dictSetT {X : Cx} {pins : List (Addr × Obj)} {σ : L2.St} {H : Hp} {s : Shared} {E : Value → Shared → Prop} {D b : Addr} {kvs : List (List Key × V)} {k : List Key} {v : V} {r : Value} {Q : Unit → Shared → Prop} (hu : X.A.units + 1 < cLine) (I : Inv X pins σ H s)
    (eD : H D = some (.dT kvs)) (eb : H b = some (.tup (k.map kV))) (short : kvs.length < sizeLine) (rv : RelV v r) (go : ∀ s', Inv X pins σ (upd H D (.dT (putK kvs k v))) s' → Q () s') : wpAny (model X.prog X.w) X.A (dictSet D (.ref b) r) Q E s := by
  obtain ⟨z, nD, ys, kt, dd⟩ := dt_of I.hok eD
  have z1 : ys.length ≤ sizeLine := Paired.length kt ▸ z
  have z2 : (putK kvs k v).length ≤ sizeLine := Nat.le_trans (length_putK kvs k v) short
  refine wpAny_dictSet_heap (hsz := z1) (show (tupleKind (mixKind X.prog X.w)).room X.A from Nat.lt_of_succ_lt hu) (key_of I.hok eb) dd fun g dd' hs => go _ ?_
  obtain ⟨o, es, ep, ho, p1, p2, p3, _, p4⟩ := dd'
  have kt2 := (kt.put k eb rv).keeps (H' := upd H D (.dT (putK kvs k v))) fun c ws ec => by rw [upd_ne (ne_of ec eD (fun z => nomatch z))]; exact ec
  exact d_write I (by rw [eD]; exact True.intro) hs ⟨o, ho⟩ ⟨z2, nD, _, kt2, o, es, ep, ho, p1, p2, p3, p4⟩
/-- what is asked: the new dict at D -/
def tDct (wi : TI) (g : TG) (tk tv : TE) (vs : List Nat) : TE := fun σ H Q => wi σ H fun J H1 => ∀ D, H1 D = none → ∃ W : Nat → Nat → Hp → Prop, (∃ m, W 0 m (upd H1 D (.dT []))) ∧ ∀ i m H, W i m H →
  (J.stop i H ∧ Q (.ref D) H) ∨ (J.go i H ∧ ∃ Nx : Hp → Prop, (∀ H', Nx H' → ∃ m', m' < m ∧ W (i + 1) m' H') ∧ ∀ x H', J.yld i H x H' → g x (wipe σ vs) H' fun σ2 H2 => wipe σ2 vs = wipe σ vs ∧
    tk σ2 H2 fun y H4 => tv σ2 H4 fun z H5 => ∃ kvs k b, y = .ref b ∧ H5 b = some (.tup (k.map kV)) ∧ H5 D = some (.dT kvs) ∧ kvs.length < sizeLine ∧ Nx (upd H5 D (.dT (putK kvs k z))))
section
variable {X : Cx} {kx vx tg iter : Expr} {scope : Scope} {own : List (Str × Nat)} {pos : Pos} {wi : TI} {g : TG} {tk tv : TE}
theorem pe_dct (calm : X.calm = true) (nd : X.N.Nodup) (ti : PI X tg iter wi) (ok : BlkOk X.N X.env.scope scope own)
    (rg : ∀ (s : Shared) (H : Hp) (C : Addr) (cl : List (Str × Addr)) (fp : List Addr), PG (X.blk s H scope (compEnvC scope cl C X.env) fp) tg g)
    (rk : ∀ (s : Shared) (H : Hp) (C : Addr) (cl : List (Str × Addr)) (fp : List Addr), PE (X.blk s H scope (compEnvC scope cl C X.env) fp) kx tk)
    (rv : ∀ (s : Shared) (H : Hp) (C : Addr) (cl : List (Str × Addr)) (fp : List Addr), PE (X.blk s H scope (compEnvC scope cl C X.env) fp) vx tv) (hu : X.A.units + 1 < cLine) (fold : ∀ x, foldedSetIterable iter X.env x = pure x := by intro _; rfl) :
    PE X (.DictComp kx vx [⟨tg, iter, [], 0⟩] scope pos) (tDct wi g tk tv (own.map (·.2))) := by
  refine ⟨fun pins s σ H Q I h => ?_⟩
  rw [arm_eval_DictComp]
  have fr : ∀ y ∈ scope.names, y.2 = .free → ∃ c, X.env.cells.lookup y.1 = some c := fun y hy e => (ok.free y hy e).elim (fun k => I.ok.has _ (.inl k)) fun k => I.ok.has _ (.inr k)
  refine wpAny_comprehension_free rfl fold (closure_ok fr) ok.kind (fun y hy e => by rw [ok.uniq y hy, e]) (thn (ti.run pins s σ H _ I h) fun xv _ hx => thn hx fun itv sI hI => ?_)
  obtain ⟨it, fp, tn, J, HI, rfl, II, T, stI, fI, q⟩ := hI
  refine wpAny_newObj_type (newEnv_comp ?_)
  -- the new dict lies at D, the block's locals at L
  obtain ⟨D, hD⟩ : ∃ D, sI.heap.objs.size = D := ⟨_, rfl⟩
  rw [hD]
  have noD : HI D = none := II.hok.fresh (Nat.le_of_eq hD)
  obtain ⟨W, ⟨m0, w0⟩, turn⟩ := q D noD
  obtain ⟨s3, hs3⟩ : ∃ s3 : Shared, { sI with heap := sI.heap.push { cls := .type "dict", data := .dict #[] } } = s3 := ⟨_, rfl⟩
  have heq : s3.heap = sI.heap.push { cls := .type "dict", data := .dict #[] } := by rw [← hs3]
  obtain ⟨H3, hH3⟩ : ∃ H3, upd HI D (.dT []) = H3 := ⟨_, rfl⟩
  rw [hH3] at w0
  have I3 : Inv X pins σ H3 s3 := by
    rw [← hs3, ← hH3]
    refine II.laid (t' := sI.toks) (fun _ _ e => Heap.get?_push_of_some _ e) (Nat.le_of_eq hD) ?_
    rw [← hD]
    exact dt_empty sI.heap II.big
  have f3 : ∀ b ∈ fp, FpOk X pins H3 b ∧ b < s3.heap.objs.size := fun b hb => by
    obtain ⟨_, eo, _⟩ := T.obj _ _ stI b hb
    have lt := Heap.lt_size eo
    have ne : b ≠ D := by rw [← hD]; exact Nat.ne_of_lt lt
    refine ⟨⟨by rw [← hH3, upd_ne ne]; exact (fI b hb).1, (fI b hb).2⟩, ?_⟩
    rw [heq, Heap.size_push]
    exact Nat.lt_succ_of_lt lt
  have st3 : tn 0 s3.heap := T.keep _ _ _ stI fun _ _ _ e => by rw [heq]; exact Heap.get?_push_of_some _ e
  obtain ⟨L, hL⟩ : ∃ L, s3.heap.objs.size = L := ⟨_, rfl⟩
  have IB := block_start I3 ok nd f3
  rw [hL] at IB
  obtain ⟨cl, hcl⟩ : ∃ cl, cellsFrom (L + 1) scope.names (cloFrom X.env.cells scope.names []) = cl := ⟨_, rfl⟩
  rw [hcl] at IB
  have g1 := rg s3 H3 L cl fp
  have k1 := rk s3 H3 L cl fp
  have v1 := rv s3 H3 L cl fp
  have eL : (compEnvC scope cl L X.env).locals = L := rfl
  generalize hce : compEnvC scope cl L X.env = ce at IB g1 k1 v1 eL
  obtain ⟨s4, hs4⟩ : ∃ s4 : Shared, { s3 with heap := pushCells (s3.heap.push { cls := .type "dict", data := .dict #[] }) scope.names } = s4 := ⟨_, rfl⟩
  rw [hs4] at IB
  have st4 : tn 0 s4.heap := T.keep _ _ _ st3 fun _ _ _ e => by rw [← hs4]; exact pushCells_keeps _ _ _ _ (Heap.get?_push_of_some _ e)
  have fpB : ∀ {σ' : L2.St} {H' : Hp} {s' : Shared}, Inv (X.blk s3 H3 scope ce fp) [] σ' H' s' → (∀ b ∈ fp, H' b = none) → ∀ b ∈ fp, FpOk (X.blk s3 H3 scope ce fp) [] H' b := fun {_ _ _} J' hn b hb =>
    ⟨hn b hb, (J'.ok.exf b hb).1, J'.ok.exfs b hb, .inl hb, fun x c e => (J'.ok.exf b hb).2 x c e, fun p hp => absurd hp (by simp)⟩
  have units : (X.blk s3 H3 scope ce fp).A.units + 1 < cLine := hu
  have post : codeAny (model X.prog X.w) X.A (.compLoop (.DictComp kx vx [⟨tg, iter, [], 0⟩] scope pos) 0 (.ref it) (.ref D) ce) (compPost (model X.prog X.w) X.A X.xe none (EP X pins σ Q) (.ref D) L) s4 := by
    refine compLoop_anyD (fun n s' => ∃ i H', Inv (X.blk s3 H3 scope ce fp) [] (wipe σ (own.map (·.2))) H' s' ∧ tn i s'.heap ∧ (∀ b ∈ fp, H' b = none) ∧ W i n H') ?_ m0 ⟨0, H3, IB, st4, fun b hb => (f3 b hb).1.1, w0⟩
    rintro n s5 ⟨i, H5, I5, st5, n5, w5⟩
    rcases turn i n H5 w5 with ⟨stop, qq⟩ | ⟨go, Nx, hNx, step⟩
    · refine thnF (T.done (X.blk s3 H3 scope ce fp) rfl rfl rfl calm i [] s5 _ H5 (fun _ _ => False) I5 (fpB I5 n5) st5 stop) fun r s6 ⟨hr, I6⟩ => ?_
      subst hr
      have I7 : Inv X pins σ H5 s6 := I3.call' (ch := fp) I6.os I6.base I6.hok I6.bare fun b hb => let ⟨_, a2, a3, a4, a5, a6⟩ := (f3 b hb).1; ⟨a4, a2, a5, a6⟩
      have noL : H5 L = none := by have z : H5 ce.locals = none := I6.free; rwa [eL] at z
      obtain ⟨m, hn, _⟩ := I6.loc
      have hn2 : s6.heap.Ns L m := by have z : s6.heap.Ns ce.locals m := hn; rwa [eL] at z
      obtain ⟨b0, b1, _, b3, b4, b5⟩ := I3.fpOk (Nat.le_of_eq hL) noL
      exact ⟨m, hn2, fun h'' sb => ⟨.ref D, H5, I7.turned (t' := s6.toks) (fun b o hb e => (sb.2 b hb).trans e) b0 b1 b3 b4 b5, rfl, qq⟩⟩
    · refine thnF (T.item (X.blk s3 H3 scope ce fp) rfl rfl rfl calm i [] s5 _ H5 (fun _ _ => False) I5 (fpB I5 n5) st5 go) fun r s6 ⟨u, hr, h6⟩ => ?_
      subst hr
      refine thnF h6 fun _ s7 ⟨x, H7, I7, r7, y7, st7, n7⟩ => ?_
      have P7 := I7.pinned (fpB I7 n7) (T.obj _ _ st7)
      refine thnF (g1.run _ s7 _ H7 x u _ P7 r7 (step x H7 y7)) fun _ s8 ⟨σ8, H8, I8, hw8, q8⟩ => ?_
      refine thnF ((pts_nil (X := X.blk s3 H3 scope ce fp)).run _ s8 σ8 H8 _ I8 (show tYes σ8 H8 (fun b H9 => b = true ∧ tk σ8 H9 _) from ⟨rfl, q8⟩)) fun b s9 ⟨H9, I9, hb9, q9⟩ => ?_
      subst hb9
      simp only [if_true]
      refine thnF (k1.run _ s9 σ8 H9 _ I9 q9) fun z s10 ⟨yk, H10, I10, r10, q10⟩ => ?_
      refine thnF (v1.run _ s10 σ8 H10 _ I10 q10) fun z2 s11 ⟨yv, H11, I11, r11, kvs, k, b, ek, eb, eD, short, nx⟩ => ?_
      subst ek
      cases (show z = Value.ref b from r10)
      refine dictSetT (X := X.blk s3 H3 scope ce fp) units I11 eD eb short r11 fun s12 I12 => ?_
      obtain ⟨m', hm, w'⟩ := hNx _ nx
      have pin' : ∀ b ∈ fp, ∀ o, s7.heap.get? b = some o → s12.heap.get? b = some o ∧ (upd H11 D (.dT (putK kvs k yv))) b = none := fun b hb o e =>
        let zz := I12.pin (b, o) (List.mem_append_right _ (List.mem_append_right _ (mem_pinsAt hb e)))
        ⟨zz.1, zz.2.1⟩
      have hl : (wipe σ (own.map (·.2))).length = σ8.length := by rw [← hw8, wipe_length]
      refine ⟨m', hm, i + 1, _, (I12.unpinned (pins := [])).weak hl (fun j v e => ?_), T.keep _ _ _ st7 fun b hb o e => (pin' b hb o e).1, fun b hb => ?_, w'⟩
      · rw [← hw8] at e
        exact (wipe_some e).1
      · obtain ⟨o, e, _⟩ := T.obj _ _ st7 b hb
        exact (pin' b hb o e).2
  have fin := codeAny_compStart_dict post (T.self X.A 0 _ _ _ st4 post)
  rw [← hs4, ← hs3, ← hce, ← hcl, ← hL, ← hs3] at fin
  exact fin
end
end K72

-- K72Best
set_option Elab.async false
set_option linter.all false
set_option maxRecDepth 100000
set_option maxHeartbeats 4000000
/-! best.py. -/
namespace K72
open PySem PySem.Spec PyProof.Rows L2
/-! ### dicts by lots -/
def kL (l : List Nat) : List Key := l.map fun (n : Nat) => (Sum.inl (n : Int) : Key)
theorem kL_map (l : List Nat) : (kL l).map kV = l.map vi := by unfold kL; rw [List.map_map]; rfl
theorem kL_inj {l m : List Nat} (h : kL l = kL m) : l = m := by
  induction l generalizing m with
  | nil => cases m with
    | nil => rfl
    | cons a r => cases h
  | cons a r ih => cases m with
    | nil => cases h
    | cons b t =>
      have h1 : (Sum.inl (a : Int) : Key) = Sum.inl (b : Int) := (List.cons.inj h).1
      have h2 : (a : Int) = (b : Int) := by injection h1
      have h3 : a = b := by omega
      rw [h3, ih (List.cons.inj h).2]
theorem put_new {kvs : List (List Key × V)} {k : List Key} {v : V} (h : ∀ p ∈ kvs, p.1 ≠ k) : putK kvs k v = kvs ++ [(k, v)] := by
  unfold putK
  rw [if_neg]
  intro e
  obtain ⟨p, hp, q⟩ := List.any_eq_true.mp e
  exact h p hp (by simpa using q)
theorem val_pd {F : List Nat → V → Prop} : ∀ {zs : List (List Nat)} {kvs : List (List Key × V)} {z : List Nat}, Paired (fun (z : List Nat) (p : List Key × V) => p.1 = kL z ∧ F z p.2) zs kvs → z ∈ zs → ∃ v, valV kvs (kL z) = some v ∧ F z v
  | _, _, _, .nil, h => nomatch h
  | _, _, z, .cons (a := a) (b := p) ⟨e, f⟩ t, h => by
    by_cases q : a = z
    · subst q
      refine ⟨p.2, ?_, f⟩
      unfold valV
      rw [List.find?_cons, show decide (p.1 = kL a) = true from decide_eq_true e]
      rfl
    · have hz : z ∈ _ := (List.mem_cons.mp h).resolve_left (fun e => q e.symm)
      obtain ⟨v, hv, fv⟩ := val_pd t hz
      refine ⟨v, ?_, fv⟩
      have : decide (p.1 = kL z) = false := decide_eq_false (fun e2 => q (kL_inj (e.symm.trans e2)))
      unfold valV at hv ⊢
      rw [List.find?_cons, this]
      exact hv
/-- {z: value for z in ..}, z over lots -/
theorem dct_lots {J : It} {H : Hp} {xs : List V} {zs : List (List Nat)} {j : Nat} {tk tv : TE} {vs : List Nat} {σ : L2.St} {D : Addr} {Qd : Hp → Prop} (R : List Nat → V → Hp → Prop) (hR : ∀ z, Stay (R z)) (hRD : ∀ z v H D kvs kvs', H D = some (.dT kvs) → R z v H → R z v (upd H D (.dT kvs'))) (W : Walk0 J H xs)
    (hI : Paired (fun z x => ∃ a : Addr, x = V.ref a ∧ LS H a z) zs xs) (nd : zs.Nodup) (hn : xs.length < 100000) (hw : ∀ x : V, wipe ((wipe σ vs).set j (some x)) vs = wipe σ vs)
    (hk : ∀ z x H1, Same H H1 → z ∈ zs → (∃ a : Addr, x = V.ref a ∧ LS H1 a z) → ∀ Q : VK, Q x H1 → tk ((wipe σ vs).set j (some x)) H1 Q)
    (hv : ∀ z x H1, Same H H1 → z ∈ zs → (∃ a : Addr, x = V.ref a ∧ LS H1 a z) → ∀ Q : VK, (∀ y H2, Same H1 H2 → R z y H2 → Q y H2) → tv ((wipe σ vs).set j (some x)) H1 Q)
    (hD : H D = none) (done : ∀ H' kvs, Same H H' → H' D = some (.dT kvs) → Paired (fun (z : List Nat) (p : List Key × V) => p.1 = kL z ∧ R z p.2 H') zs kvs → Qd H') :
    ∃ W : Nat → Nat → Hp → Prop, (∃ m, W 0 m (upd H D (.dT []))) ∧ ∀ i m H, W i m H →
      (J.stop i H ∧ Qd H) ∨ (J.go i H ∧ ∃ Nx : Hp → Prop, (∀ H', Nx H' → ∃ m', m' < m ∧ W (i + 1) m' H') ∧ ∀ x H', J.yld i H x H' → gName j x (wipe σ vs) H' fun σ2 H2 => wipe σ2 vs = wipe σ vs ∧
        tk σ2 H2 fun y H4 => tv σ2 H4 fun z H5 => ∃ kvs k b, y = .ref b ∧ H5 b = some (.tup (k.map kV)) ∧ H5 D = some (.dT kvs) ∧ kvs.length < sizeLine ∧ Nx (upd H5 D (.dT (putK kvs k z)))) := by
  have hl : zs.length = xs.length := Pd.len hI
  refine ⟨fun i m H' => m = xs.length - i ∧ i ≤ xs.length ∧ Same H H' ∧ ∃ kvs, H' D = some (.dT kvs) ∧ Paired (fun (z : List Nat) (p : List Key × V) => p.1 = kL z ∧ R z p.2 H') (zs.take i) kvs,
    ⟨xs.length, by simp, Nat.zero_le _, Same.new hD, [], upd_same, by simp; exact .nil⟩, ?_⟩
  rintro i m H1 ⟨rfl, hi, e1, kvs, hkv, hp⟩
  by_cases hlt : i < xs.length
  · obtain ⟨x, hx⟩ : ∃ x, xs[i]? = some x := ⟨xs[i], List.getElem?_eq_getElem hlt⟩
    obtain ⟨z, hz, hIz⟩ := Pd.at hI hx
    have hzm : z ∈ zs := List.mem_of_getElem? hz
    refine .inr ⟨W.go i x H1 e1 hx, fun H' => i + 1 ≤ xs.length ∧ Same H H' ∧ ∃ kvs, H' D = some (.dT kvs) ∧ Paired (fun (z : List Nat) (p : List Key × V) => p.1 = kL z ∧ R z p.2 H') (zs.take (i + 1)) kvs,
      fun H' h => ⟨xs.length - (i + 1), by omega, rfl, h⟩, fun y H2 hy => ?_⟩
    obtain ⟨rfl, rfl⟩ := W.yld i x y H1 H2 e1 hx hy
    obtain ⟨a, rfl, ha⟩ := hIz
    refine ⟨hw _, hk z (.ref a) H2 e1 hzm ⟨a, rfl, e1 _ _ ha⟩ _ (hv z (.ref a) H2 e1 hzm ⟨a, rfl, e1 _ _ ha⟩ _ fun v H3 e3 r3 => ?_)⟩
    have e13 := e1.trans e3
    have hlen : kvs.length ≤ i := by rw [← Pd.len hp, List.length_take]; omega
    refine ⟨kvs, kL z, a, rfl, by rw [kL_map]; exact e13 _ _ ha, e3 _ _ hkv, line_lt (by omega), hlt, Same.mut e13 hD, _, upd_same, ?_⟩
    have hnew : ∀ p ∈ kvs, p.1 ≠ kL z := by
      intro p hpm e
      obtain ⟨k, hk2⟩ := List.mem_iff_getElem?.mp hpm
      obtain ⟨y, hy1, hy2, _⟩ := Pd.at hp hk2
      have hyz : y = z := kL_inj (hy2.symm.trans e)
      subst hyz
      rw [List.getElem?_take] at hy1
      split at hy1
      · rename_i hki
        have := (List.getElem?_inj (by have := (List.getElem?_eq_some_iff.mp hy1).1; exact this) nd).mp (hy1.trans hz.symm)
        omega
      · cases hy1
    rw [put_new hnew, List.take_add_one, hz]
    have lift : ∀ w u, R w u H2 → R w u (upd H3 D (.dT (kvs ++ [(kL z, v)]))) := fun w u r => hRD _ _ _ _ _ _ (e3 _ _ hkv) (hR w u _ _ e3.x r)
    exact Pd.snoc (Pd.imp (fun w p q => ⟨q.1, lift _ _ q.2⟩) hp) ⟨rfl, hRD _ _ _ _ _ _ (e3 _ _ hkv) r3⟩
  · have e : i = xs.length := by omega
    subst e
    rw [← hl, List.take_length] at hp
    exact .inl ⟨W.stop H1 e1, done H1 kvs e1 hkv hp⟩
theorem codes_nd {n : Nat} : (allLots n).Nodup := by
  have h : ((allLots n).map codeN).Nodup := by rw [codes_all]; exact List.nodup_range
  exact (List.pairwise_map.mp h).imp (fun h e => h (by rw [e]))
theorem middle_nd {n : Nat} : (middleN n).Nodup := codes_nd.sublist List.filter_sublist
/-- the keys of a locked dict -/
theorem walk_keysTu {d : Addr} {o : Obj} {kvs : List (List Key × V)} {H : Hp} (h : H d = some (.frz o (.dT kvs))) : ∀ i H', Same H H' → i ≤ kvs.length → ((Itkt d o kvs).stop i H' ↔ kvs.length ≤ i) := fun i H' e hi => ⟨fun q => q.2, fun q => ⟨e _ _ h, q⟩⟩
end K72

-- K72Best2
set_option Elab.async false
set_option linter.all false
set_option maxRecDepth 100000
set_option maxHeartbeats 4000000
/-! best.py, walked (printed by gen_best.py). -/
namespace K72
open PySem PySem.Spec PyProof.Rows L2
/-- a walk told by what holds of its values where they come out -/
structure Walk1 {α : Type} (J : It) (H : Hp) (zs : List α) (I : α → V → Hp → Prop) : Prop where
  go : ∀ (i : Nat) z H', Same H H' → zs[i]? = some z → J.go i H'
  yld : ∀ (i : Nat) z y H' H2, Same H H' → zs[i]? = some z → J.yld i H' y H2 → H2 = H' ∧ I z y H'
  stop : ∀ H', Same H H' → J.stop zs.length H'
theorem lc_pure1 {α : Type} {J : It} {H : Hp} {zs : List α} {I : α → V → Hp → Prop} {j : Nat} {tt : TT} {te : TE} {vs : List Nat} {σ : L2.St} {D : Addr} {Qd : Hp → Prop} (f : α → Bool) (R : α → V → Hp → Prop) (hR : ∀ z, Stay (R z)) (W : Walk1 J H zs I)
    (hn : zs.length < 100000) (hw : ∀ x : V, wipe ((wipe σ vs).set j (some x)) vs = wipe σ vs)
    (ht : ∀ z x H1, Same H H1 → z ∈ zs → I z x H1 → ∀ Q : Bool → Hp → Prop, (∀ H2, Same H1 H2 → Q (f z) H2) → tt ((wipe σ vs).set j (some x)) H1 Q)
    (he : ∀ z x H1 H2, Same H H1 → Same H1 H2 → z ∈ zs → I z x H1 → f z = true → ∀ Q : VK, (∀ y H3, Same H2 H3 → R z y H3 → Q y H3) → te ((wipe σ vs).set j (some x)) H2 Q)
    (hD : H D = none) (done : ∀ H' ys, Same H H' → H' D = some (.lst ys) → Paired (fun z y => R z y H') (zs.filter f) ys → Qd H') :
    ∃ W : Nat → Nat → Hp → Prop, (∃ m, W 0 m (upd H D (.lst []))) ∧ ∀ i m H, W i m H →
      (J.stop i H ∧ Qd H) ∨ (J.go i H ∧ ∃ Nx : Hp → Prop, (∀ H', Nx H' → ∃ m', m' < m ∧ W (i + 1) m' H') ∧ ∀ x H', J.yld i H x H' → gName j x (wipe σ vs) H' fun σ2 H2 => wipe σ2 vs = wipe σ vs ∧ tt σ2 H2 fun b H3 =>
        if b = true then te σ2 H3 fun y H4 => ∃ acc, H4 D = some (.lst acc) ∧ acc.length < sizeLine ∧ Nx (upd H4 D (.lst (acc ++ [y]))) else Nx H3) := by
  refine ⟨fun i m H' => m = zs.length - i ∧ i ≤ zs.length ∧ Same H H' ∧ ∃ ys, H' D = some (.lst ys) ∧ ys.length ≤ i ∧ Paired (fun z y => R z y H') ((zs.take i).filter f) ys,
    ⟨zs.length, by simp, Nat.zero_le _, Same.new hD, [], upd_same, Nat.le_refl _, by simp; exact .nil⟩, ?_⟩
  rintro i m H1 ⟨rfl, hi, e1, ys, hys, hyl, hp⟩
  by_cases hlt : i < zs.length
  · obtain ⟨z, hz⟩ : ∃ z, zs[i]? = some z := ⟨zs[i], List.getElem?_eq_getElem hlt⟩
    have hzm : z ∈ zs := List.mem_of_getElem? hz
    refine .inr ⟨W.go i z H1 e1 hz, fun H' => i + 1 ≤ zs.length ∧ Same H H' ∧ ∃ ys, H' D = some (.lst ys) ∧ ys.length ≤ i + 1 ∧ Paired (fun z y => R z y H') ((zs.take (i + 1)).filter f) ys,
      fun H' h => ⟨zs.length - (i + 1), by omega, rfl, h⟩, fun y H2 hy => ?_⟩
    obtain ⟨rfl, hI⟩ := W.yld i z y H1 H2 e1 hz hy
    refine ⟨hw _, ht z y H2 e1 hzm hI _ fun H3 e3 => ?_⟩
    have hp3 : Paired (fun z y => R z y H3) ((zs.take i).filter f) ys := Pd.imp (fun a b r => hR a b _ _ e3.x r) hp
    cases hf : f z with
    | true =>
      refine iteT (he z y H2 H3 e1 e3 hzm hI hf _ fun v H4 e4 r4 => ?_)
      refine ⟨ys, e4 _ _ (e3 _ _ hys), line_lt (by omega), hlt, Same.mut ((e1.trans e3).trans e4) hD, ys ++ [v], upd_same, by simp; omega, ?_⟩
      rw [filter_take_succ hz, hf]
      have e5 : SameX H4 (upd H4 D (.lst (ys ++ [v]))) := SameX.lst (e4 _ _ (e3 _ _ hys))
      exact Pd.snoc (Pd.imp (fun a b r => hR a b _ _ (e4.x.trans e5) r) hp3) (hR z v _ _ e5 r4)
    | false =>
      refine iteF ⟨hlt, e1.trans e3, ys, e3 _ _ hys, by omega, ?_⟩
      rw [filter_take_succ hz, hf]
      simpa using hp3
  · have e : i = zs.length := by omega
    subst e
    rw [List.take_length] at hp
    exact .inl ⟨W.stop H1 e1, done H1 ys e1 hys hp⟩
theorem walk_kt {F : List Nat → List Key × V → Prop} {d : Addr} {o : Obj} {zs : List (List Nat)} {kvs : List (List Key × V)} {H : Hp} (h : H d = some (.frz o (.dT kvs))) (p : Paired (fun (z : List Nat) (p : List Key × V) => p.1 = kL z ∧ F z p) zs kvs) :
    Walk1 (Itkt d o kvs) H zs (fun z x H' => ∃ a : Addr, x = V.ref a ∧ LS H' a z) where
  go := fun i z H' e hz => ⟨e _ _ h, by have := (List.getElem?_eq_some_iff.mp hz).1; rw [← Pd.len p]; exact this⟩
  yld := fun i z y H' H2 e hz q => by
    obtain ⟨q1, k, v, a, q2, q3, q4⟩ := q
    obtain ⟨w, hw, hk, _⟩ := Pd.at p q2
    have hwz : w = z := Option.some.inj (hw.symm.trans hz)
    subst hwz
    refine ⟨q1, a, q3, ?_⟩
    rw [show k = kL w from hk, kL_map] at q4
    exact q4
  stop := fun H' e => ⟨e _ _ h, by rw [← Pd.len p]; exact Nat.le_refl _⟩
/-- a gain that stands in the dict -/
def GainR (K : PySem.W.Frag) (cs : List Rt) (s : Rt) (z : List Nat) (v : V) (H : Hp) : Prop := ∃ (y : Addr) (o u : Int), v = .ref y ∧ RatAt K H y o u ∧ S31 o ∧ 0 < u ∧ (0 < o ↔ 0 < gainN cs s z) ∧ (0 ≤ o ↔ 0 ≤ gainN cs s z)
theorem gain_stay {K : PySem.W.Frag} {cs : List Rt} {s : Rt} (z : List Nat) : Stay (GainR K cs s z) := fun v H H' e ⟨y, o, u, h1, h2, h3⟩ => ⟨y, o, u, h1, h2.x e, h3⟩
theorem gain_keep {K : PySem.W.Frag} {cs : List Rt} {s : Rt} {z : List Nat} {v : V} {H H' : Hp} (e : ∀ y o, H y = some o → (∃ C dx fs, o = .ins C dx fs) → H' y = some o) (h : GainR K cs s z v H) : GainR K cs s z v H' := by
  obtain ⟨y, o, u, h1, ⟨dx, h2⟩, h3⟩ := h
  exact ⟨y, o, u, h1, ⟨dx, e _ _ h2 ⟨_, _, _, rfl⟩⟩, h3⟩
theorem gain_keeps {K : PySem.W.Frag} {cs : List Rt} {s : Rt} {H H' : Hp} {zs : List (List Nat)} {kvs : List (List Key × V)} (e : ∀ y o, H y = some o → (∃ C dx fs, o = .ins C dx fs) → H' y = some o) (p : Paired (fun (z : List Nat) (p : List Key × V) => p.1 = kL z ∧ GainR K cs s z p.2 H) zs kvs) :
    Paired (fun (z : List Nat) (p : List Key × V) => p.1 = kL z ∧ GainR K cs s z p.2 H') zs kvs := Pd.imp (fun _ _ q => ⟨q.1, gain_keep e q.2⟩) p
def writesN (f : Int → Bool) (cs : List Rt) (s : Rt) : List (List Nat) := ((middleN cs.length).filter fun l => f (gainN cs s l)) ++ [List.range cs.length]
theorem OkC.writes {f : Int → Bool} {cs : List Rt} {s : Rt} (o : OkC cs) : OkL cs.length (writesN f cs s) where
  n1 := o.n1
  n5 := Nat.le_trans o.n4 (by decide)
  mem := fun l h => by
    rcases List.mem_append.mp h with h | h
    · exact (List.mem_filter.mp (List.mem_filter.mp h).1).1
    · rw [List.mem_singleton.mp h]; exact range_mem _
  ne := fun l h e => by
    subst e
    rcases List.mem_append.mp h with h | h
    · have := (List.mem_filter.mp (List.mem_filter.mp h).1).2
      simp at this
    · have h2 := congrArg List.length (List.mem_singleton.mp h)
      have := o.n1
      simp at h2
      omega
  some := by unfold writesN; simp
  few := by
    have h1 := List.length_filter_le (fun l => f (gainN cs s l)) (middleN cs.length)
    have h2 : (middleN cs.length).length ≤ (allLots cs.length).length := List.length_filter_le _ _
    have h3 := allLots_256 (n := cs.length) (Nat.le_trans o.n4 (by decide))
    unfold writesN
    rw [List.length_append]
    simp
    omega
section
variable {P : Program} {w : World} {K : PySem.W.Frag} {mg : Str → Option Value} {base : Heap}
def spMG (K : PySem.W.Frag) : Sp := fun us H Q _ => ∃ (x y : Addr) (cs : List Rt) (s : Rt), us = [.ref x, .ref y] ∧ ChAt K H x cs ∧ OkC cs ∧ RatAt K H y s.1 s.2 ∧ OkS s ∧
  ∀ p kvs H', H p = none → Same H H' → H' p = some (.dT kvs) → Paired (fun (z : List Nat) (p : List Key × V) => p.1 = kL z ∧ GainR K cs s z p.2 H') (middleN cs.length) kvs → Q (.ref p) H'
abbrev nm_mg : List Str := ["chances", "share", "lot"]
theorem sc_mg : FnScope nm_mg ["chances", "share"] (defScope s_middle_gains) := ⟨rfl, rfl, rfl, by decide +kernel, rfl, by decide +kernel, by decide +kernel⟩
theorem middle_all {n : Nat} {l : List Nat} (h : l ∈ middleN n) : l ∈ allLots n := (List.mem_filter.mp h).1
theorem r_mg (T : Ft K mg) : CalR P w K mg base 10 "middle_gains" (spMG K) := by
  refine cal_of T.g_middle_gains T.f_middle_gains sc_mg (fun _ _ _ _ _ _ us hl => match us, hl with | [_, _], _ => rfl) (fun vs H Q E h => ?_) fun cdv A outer s0 H us Q E hr h => ?_
  · obtain ⟨_, _, _, _, rfl, _⟩ := h; rfl
  · obtain ⟨x, y, cs, s, rfl, hx, okc, hy, oks, hq⟩ := h
    obtain ⟨dx, t, as, hx1, _, _⟩ := id hx
    have n4 := okc.n4
    have n1 := okc.n1
    refine ⟨_, pss_one (ps_ret (pe_dct (own := [("lot", 2)]) (g := gName 2) rfl sc_mg.nd (pi_list (pe_cr (r_middle_lots T) hr (by decide) rfl (pa_cons (pe_callB (call_lenI (m_chlen T) hr (by decide)) rfl T.z_len boot_len (pa_cons (pv 0) pa_nil)) pa_nil))) (blkOk_by (N := nm_mg) (sc := defScope s_middle_gains) (by decide +kernel)) (fun _ _ _ _ _ => pg_name (i := 2) sc_mg.nd rfl (.inl rfl))
      (fun _ _ _ _ _ => pv 2) (fun _ _ _ _ _ => pe_cr (r_gain T) hr (by decide) rfl (pa_cons (pv 0) (pa_cons (pv 1) (pa_cons (pv 2) pa_nil)))) (hu_of hr))), ?_⟩
    refine ⟨_, rfl, x, dx, _, rfl, hx1, x, cs, rfl, hx, cs.length, rfl, by omega, ?_⟩
    refine ⟨cs.length, rfl, n1, by omega, fun p bs H1 hp e1 hp1 hl => ?_⟩
    have hbl : bs.length ≤ 256 := by
      rw [Pd.len hl]
      exact Nat.le_trans (List.length_filter_le _ _) (allLots_256 (by omega))
    refine ⟨p, rfl, ⟨_, SqL.of hp1⟩, ?_⟩
    refine fun D hD => dct_lots (zs := middleN cs.length) (GainR K cs s) gain_stay (fun z v H D kvs kvs' hd h => gain_keep (fun y o ho hi => by rw [upd_ne (ne_of ho hd (by obtain ⟨_, _, _, rfl⟩ := hi; intro z; cases z))]; exact ho) h)
      (walk_lst (SqL.of hp1)) (los_in hl) middle_nd (by rw [List.length_map]; omega) (fun _ => rfl) ?_ ?_ hD ?_
    · rintro z v H2 e2 m ⟨a, rfl, ha⟩ Q' q'
      exact ⟨_, rfl, q'⟩
    · rintro z v H2 e2 m ⟨a, rfl, ha⟩ Q' q'
      have e12 := e1.trans e2
      exact ⟨_, rfl, _, rfl, _, rfl, x, y, a, cs, s, z, rfl, hx.same e12, okc, hy.same e12, oks, SqT.of ha, middle_all m, fun z3 H3 o u e3 b1 b2 b3 b4 r3 => q' _ _ e3 ⟨z3, o, u, rfl, r3, b1, b2, b3, b4⟩⟩
    · intro H2 kvs e2 hkv hp2
      exact hq D kvs H2 (e1.free hD) (e1.trans e2) hkv hp2
def spWhole (K : PySem.W.Frag) : Sp := fun us H Q _ => ∃ (x : Addr) (cs : List Rt), us = [.ref x] ∧ ChAt K H x cs ∧ OkC cs ∧ ∀ p H', H p = none → Same H H' → LS H' p (List.range cs.length) → Q (.ref p) H'
abbrev nm_wh : List Str := ["chances"]
theorem sc_wh : FnScope nm_wh ["chances"] (defScope s_whole_lot) := ⟨rfl, rfl, rfl, by decide +kernel, rfl, by decide +kernel, by decide +kernel⟩
theorem rg_vi (n : Nat) : rgV 0 n = (List.range n).map vi := by
  unfold rgV
  rw [show ((n : Int) - 0).toNat = n by omega]
  apply List.map_congr_left
  intro i _
  show V.int (0 + (i : Int)) = V.int i
  rw [Int.zero_add]
theorem r_wh (T : Ft K mg) : CalR P w K mg base 3 "whole_lot" (spWhole K) := by
  refine cal_of T.g_whole_lot T.f_whole_lot sc_wh (fun _ _ _ _ _ _ us hl => match us, hl with | [_], _ => rfl) (fun vs H Q E h => ?_) fun cdv A outer s0 H us Q E hr h => ?_
  · obtain ⟨_, _, rfl, _⟩ := h; rfl
  · obtain ⟨x, cs, rfl, hx, okc, hq⟩ := h
    obtain ⟨dx, t, as, hx1, _, _⟩ := id hx
    have n4 := okc.n4
    refine ⟨_, pss_one (ps_ret (pe_tupRg rfl rfl T.z_tuple (prg_1 rfl T.z_range (pe_callB (call_lenI (m_chlen T) hr (by decide)) rfl T.z_len boot_len (pa_cons (pv 0) pa_nil))))), ?_⟩
    refine ⟨_, rfl, x, dx, _, rfl, hx1, x, cs, rfl, hx, cs.length, rfl, by omega, _, rfl, RgOk.of_le (by omega) (by omega) (by omega) (by omega), fun q hq' => ?_⟩
    refine hq q _ hq' (Same.new hq') ?_
    show _ = some _
    rw [upd_same, rg_vi]
def spW_least (K : PySem.W.Frag) : Sp := fun us H Q _ => ∃ (x y : Addr) (cs : List Rt) (s : Rt), us = [.ref x, .ref y] ∧ ChAt K H x cs ∧ OkC cs ∧ RatAt K H y s.1 s.2 ∧ OkS s ∧ ∀ p H', H p = none → Same H H' → FamAt K H' p cs.length (leastN cs.length (writesN (fun i => decide (0 < i)) cs s)) → Q (.ref p) H'
abbrev nm_least : List Str := ["chances", "share", "gains", "lots", "lot"]
theorem sc_least : FnScope nm_least ["chances", "share"] (defScope s_least_writes) := ⟨rfl, rfl, rfl, by decide +kernel, rfl, by decide +kernel, by decide +kernel⟩
theorem r_least (T : Ft K mg) : CalR P w K mg base 11 "least_writes" (spW_least K) := by
  refine cal_of T.g_least_writes T.f_least_writes sc_least (fun _ _ _ _ _ _ us hl => match us, hl with | [_, _], _ => rfl) (fun vs H Q E h => ?_) fun cdv A outer s0 H us Q E hr h => ?_
  · obtain ⟨_, _, _, _, rfl, _⟩ := h; rfl
  · obtain ⟨x, y, cs, s, rfl, hx, okc, hy, oks, hq⟩ := h
    obtain ⟨dx, t, as, hx1, _, _⟩ := id hx
    have n4 := okc.n4
    have n1 := okc.n1
    refine ⟨_, pss_cons (ps_expr (pe_cr (r_chks T) hr (by decide) rfl (pa_cons (pv 1) pa_nil)))
      (pss_cons (ps_set (i := 2) sc_least.nd rfl (.inr rfl) (pe_cr (r_mg T) hr (by decide) rfl (pa_cons (pv 0) (pa_cons (pv 1) pa_nil))))
      (pss_cons (ps_set (i := 3) sc_least.nd rfl (.inl rfl) (pe_op op_cat
        (pe_lock (pe_lc (own := [("lot", 4)]) (g := gName 4) rfl sc_least.nd (pi_keys (pv 2)) (blkOk_by (N := nm_least) (sc := defScope s_least_writes) (by decide +kernel)) (fun _ _ _ _ _ => pg_name (i := 4) sc_least.nd rfl (.inl rfl))
          (fun _ _ _ _ _ => pts_one (pt_cmpR (op_cmpI (fun _ _ => rfl) (m_rgt T) rfl hr (by decide)) (pe_dget (hu_of hr) (pv 2) (pv 4) (fun _ _ => rfl)) pe_int (nomark _))) (fun _ _ _ _ _ => pv 4)))
        (pe_lst (pa_cons (pe_cr (r_wh T) hr (by decide) rfl (pa_cons (pv 0) pa_nil)) pa_nil))))
      (pss_one (ps_ret (pe_krS (mk_family T) hr (by decide) rfl (pa_cons (pe_callB (call_lenI (m_chlen T) hr (by decide)) rfl T.z_len boot_len (pa_cons (pv 0) pa_nil)) (StX.pa_star (pv 3) pa_nil))))))), ?_⟩
    refine ⟨_, rfl, y, s, rfl, hy, oks, fun H1 e1 => ?_⟩
    refine ⟨_, rfl, _, rfl, x, y, cs, s, rfl, hx.same e1, okc, hy.same e1, oks, fun d kvs H2 hd e2 hd2 hp2 => ?_⟩
    have e12 := e1.trans e2
    refine ⟨d, _, hd2, trivial, fun od => ?_⟩
    have ei : ∀ y o, H2 y = some o → (∃ C dx fs, o = HO.ins C dx fs) → (upd H2 d (.frz od (.dT kvs))) y = some o := fun y o ho hi => by
      rw [upd_ne (ne_of ho hd2 (by obtain ⟨_, _, _, rfl⟩ := hi; intro z; cases z))]; exact ho
    have hp3 := gain_keeps ei hp2
    refine ⟨_, rfl, d, od, rfl, .inr ⟨_, upd_same, ?_⟩⟩
    have hml : (middleN cs.length).length ≤ 256 := Nat.le_trans (List.length_filter_le _ _) (allLots_256 (by omega))
    refine fun D hD => lc_pure1 (zs := middleN cs.length) (I := fun z x H' => ∃ a : Addr, x = V.ref a ∧ LS H' a z) (fun l => (fun i => decide (0 < i)) (gainN cs s l)) (fun z y H' => ∃ a : Addr, y = V.ref a ∧ LT K H' a z) lot_stay (walk_kt (F := fun z p => GainR K cs s z p.2 _) upd_same hp3) (by omega) (fun _ => rfl) ?_ ?_ hD ?_
    · rintro z v H3 e3 m ⟨a, rfl, ha⟩ Q' q'
      obtain ⟨v, hv, g, o, u, rfl, hg, b1, b2, g1, g2⟩ := val_pd (F := fun z v => GainR K cs s z v (upd H2 d (.frz od (.dT kvs)))) hp3 m
      obtain ⟨dg, hg3⟩ := hg.same e3
      refine ⟨_, rfl, _, rfl, d, .ref g, rfl, .inr ⟨kvs, kL z, a, .inr ⟨_, e3 _ _ upd_same⟩, rfl, by rw [kL_map]; exact ha, hv.symm⟩, ?_⟩
      refine ⟨g, dg, _, rfl, hg3, .inr ⟨0, rfl⟩, g, .int 0, o, u, 0, 1, rfl, ⟨dg, hg3⟩, .inr ⟨rfl, rfl⟩, b1.sm, by unfold Sm; decide, fun H4 e4 => ⟨_, rfl, ?_⟩⟩
      have := q' H4 e4
      have e : (fun i => decide (0 < i)) (gainN cs s z) = (fun i => decide (0 < i)) o := by
        show decide _ = decide _
        exact decide_eq_decide.mpr g1.symm
      rw [e] at this
      show Q' (decide _) H4
      rw [Int.mul_one, Int.zero_mul]
      exact this
    · rintro z v H3 H4 e3 e4 m ⟨a, rfl, ha⟩ _ Q' q'
      exact ⟨_, rfl, q' _ _ (Same.refl _) ⟨a, rfl, SqT.of (e4 _ _ ha)⟩⟩
    · intro H3 ys e3 hys hp4
      obtain ⟨bs, rfl, hb⟩ := lots_out hp4
      refine ⟨e3 _ _ upd_same, ?_⟩
      have hDd : D ≠ d := fun e => by rw [e, upd_same] at hD; cases hD
      have e4 : Same H2 (upd H3 d (.dT kvs)) := fun b o hb => by
        by_cases q : b = d
        · subst q; rw [hd2] at hb; cases hb; exact upd_same
        · rw [upd_ne q]
          exact e3 b o (by rw [upd_ne q]; exact hb)
      have hnD : H2 D = none := by rw [upd_ne hDd] at hD; exact hD
      have hb4 : LLs K (upd H3 d (.dT kvs)) bs ((middleN cs.length).filter fun l => (fun i => decide (0 < i)) (gainN cs s l)) := Pd.imp (fun a l h => by
        have hd3 := e3 _ _ upd_same
        rcases h with (h | ⟨o, h⟩) | h
        · exact .inl (.inl (by rw [upd_ne (ne_of h hd3 (by intro z; cases z))]; exact h))
        · by_cases q : a = d
          · subst q; rw [hd3] at h; cases h
          · exact .inl (.inr ⟨o, by rw [upd_ne q]; exact h⟩)
        · exact .inr h) hb
      have hys4 : upd H3 d (.dT kvs) D = some (.lst (bs.map V.ref)) := by rw [upd_ne hDd]; exact hys
      have e14 := e12.trans e4
      refine ⟨_, rfl, x, cs, rfl, hx.same e14, okc, fun wl H5 hwl e5 hw5 => ?_⟩
      refine ⟨line_of (by show 1 ≤ 100000; decide), fun L hL => ?_⟩
      have e6 : Same H5 (upd H5 L (.lst [.ref wl])) := Same.new hL
      have hbl : bs.length ≤ 256 := by
        rw [Pd.len hb]
        exact Nat.le_trans (List.length_filter_le _ _) hml
      refine ⟨D, L, _, _, rfl, rfl, e6 _ _ (e5 _ _ hys4), upd_same, line_of (by rw [List.length_map]; show bs.length + 1 ≤ 100000; omega), fun q hq' => ?_⟩
      have e7 := (e6.trans (Same.new (o := .lst (bs.map V.ref ++ [V.ref wl])) hq'))
      have e17 := (e14.trans e5).trans e7
      refine ⟨_, rfl, x, dx, _, rfl, e17 _ _ hx1, x, cs, rfl, hx.same e17, cs.length, rfl, by omega, ?_⟩
      refine ⟨_, rfl, q, (bs ++ [wl]).map V.ref, rfl, .inr (SqL.of (by rw [List.map_append]; exact upd_same)), ?_⟩
      refine fam_k ⟨cs.length, bs ++ [wl], writesN (fun i => decide (0 < i)) cs s, by rw [List.append_nil], Pd.snoc (LLs.same hb4 (e5.trans e7)) (SqT.of (e7 _ _ hw5)), okc.writes, fun z H8 hz e8 hf => hq z H8 (e17.free hz) (e17.trans e8) hf⟩
def spW_greatest (K : PySem.W.Frag) : Sp := fun us H Q _ => ∃ (x y : Addr) (cs : List Rt) (s : Rt), us = [.ref x, .ref y] ∧ ChAt K H x cs ∧ OkC cs ∧ RatAt K H y s.1 s.2 ∧ OkS s ∧ ∀ p H', H p = none → Same H H' → FamAt K H' p cs.length (leastN cs.length (writesN (fun i => decide (0 ≤ i)) cs s)) → Q (.ref p) H'
abbrev nm_greatest : List Str := ["chances", "share", "gains", "lots", "lot"]
theorem sc_greatest : FnScope nm_greatest ["chances", "share"] (defScope s_greatest_writes) := ⟨rfl, rfl, rfl, by decide +kernel, rfl, by decide +kernel, by decide +kernel⟩
theorem r_greatest (T : Ft K mg) : CalR P w K mg base 11 "greatest_writes" (spW_greatest K) := by
  refine cal_of T.g_greatest_writes T.f_greatest_writes sc_greatest (fun _ _ _ _ _ _ us hl => match us, hl with | [_, _], _ => rfl) (fun vs H Q E h => ?_) fun cdv A outer s0 H us Q E hr h => ?_
  · obtain ⟨_, _, _, _, rfl, _⟩ := h; rfl
  · obtain ⟨x, y, cs, s, rfl, hx, okc, hy, oks, hq⟩ := h
    obtain ⟨dx, t, as, hx1, _, _⟩ := id hx
    have n4 := okc.n4
    have n1 := okc.n1
    refine ⟨_, pss_cons (ps_expr (pe_cr (r_chks T) hr (by decide) rfl (pa_cons (pv 1) pa_nil)))
      (pss_cons (ps_set (i := 2) sc_greatest.nd rfl (.inr rfl) (pe_cr (r_mg T) hr (by decide) rfl (pa_cons (pv 0) (pa_cons (pv 1) pa_nil))))
      (pss_cons (ps_set (i := 3) sc_greatest.nd rfl (.inl rfl) (pe_op op_cat
        (pe_lock (pe_lc (own := [("lot", 4)]) (g := gName 4) rfl sc_greatest.nd (pi_keys (pv 2)) (blkOk_by (N := nm_greatest) (sc := defScope s_greatest_writes) (by decide +kernel)) (fun _ _ _ _ _ => pg_name (i := 4) sc_greatest.nd rfl (.inl rfl))
          (fun _ _ _ _ _ => pts_one (pt_cmpR (op_cmpI (fun _ _ => rfl) (m_rge T) rfl hr (by decide)) (pe_dget (hu_of hr) (pv 2) (pv 4) (fun _ _ => rfl)) pe_int (nomark _))) (fun _ _ _ _ _ => pv 4)))
        (pe_lst (pa_cons (pe_cr (r_wh T) hr (by decide) rfl (pa_cons (pv 0) pa_nil)) pa_nil))))
      (pss_one (ps_ret (pe_krS (mk_family T) hr (by decide) rfl (pa_cons (pe_callB (call_lenI (m_chlen T) hr (by decide)) rfl T.z_len boot_len (pa_cons (pv 0) pa_nil)) (StX.pa_star (pv 3) pa_nil))))))), ?_⟩
    refine ⟨_, rfl, y, s, rfl, hy, oks, fun H1 e1 => ?_⟩
    refine ⟨_, rfl, _, rfl, x, y, cs, s, rfl, hx.same e1, okc, hy.same e1, oks, fun d kvs H2 hd e2 hd2 hp2 => ?_⟩
    have e12 := e1.trans e2
    refine ⟨d, _, hd2, trivial, fun od => ?_⟩
    have ei : ∀ y o, H2 y = some o → (∃ C dx fs, o = HO.ins C dx fs) → (upd H2 d (.frz od (.dT kvs))) y = some o := fun y o ho hi => by
      rw [upd_ne (ne_of ho hd2 (by obtain ⟨_, _, _, rfl⟩ := hi; intro z; cases z))]; exact ho
    have hp3 := gain_keeps ei hp2
    refine ⟨_, rfl, d, od, rfl, .inr ⟨_, upd_same, ?_⟩⟩
    have hml : (middleN cs.length).length ≤ 256 := Nat.le_trans (List.length_filter_le _ _) (allLots_256 (by omega))
    refine fun D hD => lc_pure1 (zs := middleN cs.length) (I := fun z x H' => ∃ a : Addr, x = V.ref a ∧ LS H' a z) (fun l => (fun i => decide (0 ≤ i)) (gainN cs s l)) (fun z y H' => ∃ a : Addr, y = V.ref a ∧ LT K H' a z) lot_stay (walk_kt (F := fun z p => GainR K cs s z p.2 _) upd_same hp3) (by omega) (fun _ => rfl) ?_ ?_ hD ?_
    · rintro z v H3 e3 m ⟨a, rfl, ha⟩ Q' q'
      obtain ⟨v, hv, g, o, u, rfl, hg, b1, b2, g1, g2⟩ := val_pd (F := fun z v => GainR K cs s z v (upd H2 d (.frz od (.dT kvs)))) hp3 m
      obtain ⟨dg, hg3⟩ := hg.same e3
      refine ⟨_, rfl, _, rfl, d, .ref g, rfl, .inr ⟨kvs, kL z, a, .inr ⟨_, e3 _ _ upd_same⟩, rfl, by rw [kL_map]; exact ha, hv.symm⟩, ?_⟩
      refine ⟨g, dg, _, rfl, hg3, .inr ⟨0, rfl⟩, g, .int 0, o, u, 0, 1, rfl, ⟨dg, hg3⟩, .inr ⟨rfl, rfl⟩, b1.sm, by unfold Sm; decide, fun H4 e4 => ⟨_, rfl, ?_⟩⟩
      have := q' H4 e4
      have e : (fun i => decide (0 ≤ i)) (gainN cs s z) = (fun i => decide (0 ≤ i)) o := by
        show decide _ = decide _
        exact decide_eq_decide.mpr g2.symm
      rw [e] at this
      show Q' (decide _) H4
      rw [Int.mul_one, Int.zero_mul]
      exact this
    · rintro z v H3 H4 e3 e4 m ⟨a, rfl, ha⟩ _ Q' q'
      exact ⟨_, rfl, q' _ _ (Same.refl _) ⟨a, rfl, SqT.of (e4 _ _ ha)⟩⟩
    · intro H3 ys e3 hys hp4
      obtain ⟨bs, rfl, hb⟩ := lots_out hp4
      refine ⟨e3 _ _ upd_same, ?_⟩
      have hDd : D ≠ d := fun e => by rw [e, upd_same] at hD; cases hD
      have e4 : Same H2 (upd H3 d (.dT kvs)) := fun b o hb => by
        by_cases q : b = d
        · subst q; rw [hd2] at hb; cases hb; exact upd_same
        · rw [upd_ne q]
          exact e3 b o (by rw [upd_ne q]; exact hb)
      have hnD : H2 D = none := by rw [upd_ne hDd] at hD; exact hD
      have hb4 : LLs K (upd H3 d (.dT kvs)) bs ((middleN cs.length).filter fun l => (fun i => decide (0 ≤ i)) (gainN cs s l)) := Pd.imp (fun a l h => by
        have hd3 := e3 _ _ upd_same
        rcases h with (h | ⟨o, h⟩) | h
        · exact .inl (.inl (by rw [upd_ne (ne_of h hd3 (by intro z; cases z))]; exact h))
        · by_cases q : a = d
          · subst q; rw [hd3] at h; cases h
          · exact .inl (.inr ⟨o, by rw [upd_ne q]; exact h⟩)
        · exact .inr h) hb
      have hys4 : upd H3 d (.dT kvs) D = some (.lst (bs.map V.ref)) := by rw [upd_ne hDd]; exact hys
      have e14 := e12.trans e4
      refine ⟨_, rfl, x, cs, rfl, hx.same e14, okc, fun wl H5 hwl e5 hw5 => ?_⟩
      refine ⟨line_of (by show 1 ≤ 100000; decide), fun L hL => ?_⟩
      have e6 : Same H5 (upd H5 L (.lst [.ref wl])) := Same.new hL
      have hbl : bs.length ≤ 256 := by
        rw [Pd.len hb]
        exact Nat.le_trans (List.length_filter_le _ _) hml
      refine ⟨D, L, _, _, rfl, rfl, e6 _ _ (e5 _ _ hys4), upd_same, line_of (by rw [List.length_map]; show bs.length + 1 ≤ 100000; omega), fun q hq' => ?_⟩
      have e7 := (e6.trans (Same.new (o := .lst (bs.map V.ref ++ [V.ref wl])) hq'))
      have e17 := (e14.trans e5).trans e7
      refine ⟨_, rfl, x, dx, _, rfl, e17 _ _ hx1, x, cs, rfl, hx.same e17, cs.length, rfl, by omega, ?_⟩
      refine ⟨_, rfl, q, (bs ++ [wl]).map V.ref, rfl, .inr (SqL.of (by rw [List.map_append]; exact upd_same)), ?_⟩
      refine fam_k ⟨cs.length, bs ++ [wl], writesN (fun i => decide (0 ≤ i)) cs s, by rw [List.append_nil], Pd.snoc (LLs.same hb4 (e5.trans e7)) (SqT.of (e7 _ _ hw5)), okc.writes, fun z H8 hz e8 hf => hq z H8 (e17.free hz) (e17.trans e8) hf⟩
end
end K72

-- K72Heavy
set_option Elab.async false
set_option linter.all false
set_option maxRecDepth 100000
set_option maxHeartbeats 4000000
/-! strict.py. -/
namespace K72
open PySem PySem.Spec PyProof.Rows L2
/-! ### numbers -/
def prodI (l : List Int) : Int := l.foldr (· * ·) 1
def rtAt (cs : List Rt) (c : Nat) : Rt := cs.getD c (1, 2)
def wO (cs : List Rt) (l : List Nat) : Int := prodI (l.map fun c => (rtAt cs c).1)
def wU (cs : List Rt) (l : List Nat) : Int := prodI (l.map fun c => (rtAt cs c).2 - (rtAt cs c).1)
def heavierN (cs : List Rt) (l : List Nat) : Bool :=
  if wO cs l * wU cs (others cs.length l) = wO cs (others cs.length l) * wU cs l then l.contains 0 else decide (wO cs (others cs.length l) * wU cs l < wO cs l * wU cs (others cs.length l))
def heavyLots (cs : List Rt) : List (List Nat) := (allLots cs.length).filter fun l => heavierN cs l
theorem prod_snoc (l : List Int) (x : Int) : prodI (l ++ [x]) = prodI l * x := by
  induction l with
  | nil => simp [prodI]
  | cons a r ih =>
    show a * prodI (r ++ [x]) = a * prodI r * x
    rw [ih, Int.mul_assoc]
theorem rt_ok {cs : List Rt} (h : ∀ c ∈ cs, OkC1 c) (c : Nat) : 0 < (rtAt cs c).1 ∧ (rtAt cs c).1 ≤ 8 ∧ 0 < (rtAt cs c).2 - (rtAt cs c).1 ∧ (rtAt cs c).2 - (rtAt cs c).1 ≤ (rtAt cs c).1 := by
  unfold rtAt
  rw [List.getD_eq_getElem?_getD]
  cases e : cs[c]? with
  | none => exact ⟨by decide, by decide, by decide, by decide⟩
  | some r =>
    have o := h r (List.mem_of_getElem? e)
    have o1 := o.half
    have o2 := o.one
    have o3 := o.eight
    have o4 := o.ok.pos
    show 0 < r.1 ∧ r.1 ≤ 8 ∧ 0 < r.2 - r.1 ∧ r.2 - r.1 ≤ r.1
    omega
theorem w_ok {cs : List Rt} (h : ∀ c ∈ cs, OkC1 c) : ∀ l : List Nat, 0 < wU cs l ∧ wU cs l ≤ wO cs l ∧ wO cs l ≤ 8 ^ l.length
  | [] => ⟨by show (0 : Int) < 1; decide, by show (1 : Int) ≤ 1; decide, by show (1 : Int) ≤ 8 ^ 0; decide⟩
  | c :: r => by
    obtain ⟨h1, h2, h3⟩ := w_ok h r
    obtain ⟨k1, k2, k3, k4⟩ := rt_ok h c
    have e1 : wU cs (c :: r) = ((rtAt cs c).2 - (rtAt cs c).1) * wU cs r := rfl
    have e2 : wO cs (c :: r) = (rtAt cs c).1 * wO cs r := rfl
    rw [e1, e2]
    refine ⟨Int.mul_pos k3 h1, ?_, ?_⟩
    · exact Int.le_trans (Int.mul_le_mul_of_nonneg_right k4 (by omega)) (Int.mul_le_mul_of_nonneg_left h2 (by omega))
    · rw [List.length_cons, Int.pow_succ, Int.mul_comm (8 ^ r.length)]
      exact Int.le_trans (Int.mul_le_mul_of_nonneg_right k2 (by omega)) (Int.mul_le_mul_of_nonneg_left h3 (by decide))
/-- two in lowest terms -/
theorem okr_eq {o u o2 u2 : Int} (h : OkR o u) (h2 : OkR o2 u2) : (o = o2 ∧ u = u2) ↔ o * u2 = o2 * u := by
  constructor
  · rintro ⟨rfl, rfl⟩; rfl
  · intro e
    have hu := h.pos
    have hu2 := h2.pos
    have c1 : Nat.Coprime o.natAbs u.natAbs := h.cop
    have c2 : Nat.Coprime o2.natAbs u2.natAbs := h2.cop
    have en : o.natAbs * u2.natAbs = o2.natAbs * u.natAbs := by rw [← Int.natAbs_mul, e, Int.natAbs_mul]
    have d1 : u.natAbs ∣ u2.natAbs := Nat.Coprime.dvd_of_dvd_mul_left c1.symm (by rw [en]; exact Nat.dvd_mul_left _ _)
    have d2 : u2.natAbs ∣ u.natAbs := Nat.Coprime.dvd_of_dvd_mul_left c2.symm (by rw [← en]; exact Nat.dvd_mul_left _ _)
    have e1 := Nat.dvd_antisymm d1 d2
    have e2 : u = u2 := by omega
    subst e2
    exact ⟨Int.eq_of_mul_eq_mul_right (by omega) e, rfl⟩
theorem cross {o u o2 u2 A B A2 B2 : Int} (h : Eqv o u A B) (h2 : Eqv o2 u2 A2 B2) (p1 : 0 < u) (p2 : 0 < u2) (q1 : 0 < B) (q2 : 0 < B2) : (o * u2 = o2 * u ↔ A * B2 = A2 * B) ∧ (o2 * u < o * u2 ↔ A2 * B < A * B2) := by
  unfold Eqv at h h2
  have key : (o * u2 - o2 * u) * (B * B2) = (A * B2 - A2 * B) * (u * u2) := by
    calc (o * u2 - o2 * u) * (B * B2) = (o * B) * u2 * B2 - (o2 * B2) * u * B := by rw [Int.sub_mul]; congr 1 <;> ac_rfl
      _ = (A * u) * u2 * B2 - (A2 * u2) * u * B := by rw [h, h2]
      _ = (A * B2 - A2 * B) * (u * u2) := by rw [Int.sub_mul]; congr 1 <;> ac_rfl
  have r1 : 0 < B * B2 := Int.mul_pos q1 q2
  have r2 : 0 < u * u2 := Int.mul_pos p1 p2
  generalize B * B2 = X at *
  generalize u * u2 = Y at *
  constructor
  · constructor
    · intro e
      rw [show o * u2 - o2 * u = 0 by omega, Int.zero_mul] at key
      rcases Int.mul_eq_zero.mp key.symm with z | z <;> omega
    · intro e
      rw [show A * B2 - A2 * B = 0 by omega, Int.zero_mul] at key
      rcases Int.mul_eq_zero.mp key with z | z <;> omega
  · constructor
    · intro e
      have := Int.mul_pos (show 0 < o * u2 - o2 * u by omega) r1
      rw [key] at this
      have := Int.pos_of_mul_pos_left this r2
      omega
    · intro e
      have := Int.mul_pos (show 0 < A * B2 - A2 * B by omega) r2
      rw [← key] at this
      have := Int.pos_of_mul_pos_left this r1
      omega
theorem OkC.heavy {cs : List Rt} (o : OkC cs) : OkL cs.length (heavyLots cs) where
  n1 := o.n1
  n5 := Nat.le_trans o.n4 (by decide)
  mem := fun l h => (List.mem_filter.mp h).1
  ne := fun l h e => by
    subst e
    have h2 := (List.mem_filter.mp h).2
    unfold heavierN at h2
    obtain ⟨w1, w2, w3⟩ := w_ok o.all (others cs.length [])
    have e1 : wO cs [] = 1 := rfl
    have e2 : wU cs [] = 1 := rfl
    rw [e1, e2, Int.one_mul, Int.mul_one] at h2
    split at h2
    · cases h2
    · have := of_decide_eq_true h2
      omega
  some := by
    refine List.ne_nil_of_mem (a := List.range cs.length) (List.mem_filter.mpr ⟨range_mem _, ?_⟩)
    unfold heavierN
    rw [others_range]
    obtain ⟨w1, w2, w3⟩ := w_ok o.all (List.range cs.length)
    have e1 : wO cs [] = 1 := rfl
    have e2 : wU cs [] = 1 := rfl
    rw [e1, e2, Int.one_mul, Int.mul_one]
    have n1 := o.n1
    split
    · simp; omega
    · exact decide_eq_true (by omega)
  few := Nat.lt_of_le_of_lt (List.length_filter_le _ _) (Nat.lt_of_le_of_lt (allLots_256 (Nat.le_trans o.n4 (by decide))) (by decide))
section
variable {P : Program} {w : World} {K : PySem.W.Frag} {mg : Str → Option Value} {base : Heap}
def spWeight (K : PySem.W.Frag) : Sp := fun us H Q _ => ∃ (x a : Addr) (cs : List Rt) (l : List Nat), us = [.ref x, .ref a] ∧ ChAt K H x cs ∧ OkC cs ∧ LT K H a l ∧ (∀ c ∈ l, c < cs.length) ∧ l.length ≤ 4 ∧
  ∀ z H2 o u, Same H H2 → OkR o u → Eqv o u (wO cs l) (wU cs l) → S31 o → S31 u → RatAt K H2 z o u → Q (.ref z) H2
abbrev nm_we : List Str := ["chances", "lot", "found", "copy", "ratio"]
theorem sc_we : FnScope nm_we ["chances", "lot"] (defScope s_weight_of) := ⟨rfl, rfl, rfl, by decide +kernel, rfl, by decide +kernel, by decide +kernel⟩
theorem r_we (T : Ft K mg) : CalR P w K mg base 8 "weight_of" (spWeight K) := by
  refine cal_of T.g_weight_of T.f_weight_of sc_we (fun _ _ _ _ _ _ us hl => match us, hl with | [_, _], _ => rfl) (fun vs H Q E h => ?_) fun cdv A outer s0 H us Q E hr h => ?_
  · obtain ⟨_, _, _, _, rfl, _⟩ := h; rfl
  · obtain ⟨x, a, cs, l, rfl, ⟨dx, t, as, hx, ht, hc⟩, okc, ha, hlt, hlen, hq⟩ := h
    refine ⟨_, pss_cons (ps_set (i := 2) sc_we.nd rfl (.inl rfl) (pe_kr (mk_rat1 T) hr (by decide) rfl (pa_cons pe_int pa_nil)))
      (pss_cons (ps_for PassesOwn.never rfl (pi_tup (pv 1)) (pg_name (i := 3) sc_we.nd rfl (.inl rfl))
        (pss_cons (ps_set (i := 4) sc_we.nd rfl (.inl rfl) (pe_ix (ix_tupK K) (pe_fldK K (pv 0)) (pv 3) (fun _ _ => rfl)))
        (pss_one (ps_set (i := 2) sc_we.nd rfl (.inl rfl) (pe_op (op_binI (m_rmul T) T.first_Ratio rfl hr (by decide)) (pv 2) (pe_kr (mk_rat T) hr (by decide) rfl (pa_cons (pe_fldK K (pv 4)) (pa_cons (pe_op op_sub (pe_fldK K (pv 4)) (pe_fldK K (pv 4))) pa_nil))))))))
      (pss_one (ps_ret (pv 2)))), ?_⟩
    refine rat_k1 ⟨1, rfl, fun z1 H1 hz1 e1 r1 => ?_⟩
    refine ⟨_, rfl, a, rfl, ⟨_, LT.same ha e1⟩, for_walk (walk_tup (LT.same ha e1)) (fun i σ H' => Same H1 H' ∧ ∃ (v3 v4 : Option V) (f : Addr) (o u : Int), σ = [some (.ref x), some (.ref a), some (.ref f), v3, v4] ∧ RatAt K H' f o u ∧ OkR o u ∧ Eqv o u (wO cs (l.take i)) (wU cs (l.take i)) ∧ o.natAbs ≤ 8 ^ i ∧ u.natAbs ≤ 8 ^ i)
      ⟨Same.refl _, none, none, z1, 1, 1, rfl, r1, ⟨by decide, by decide⟩, rfl, by decide, by decide⟩ (fun i σ H' h => h.1) ?_ ?_⟩
    · rintro i y σ H2 hy ⟨e2, v3, v4, f, o, u, rfl, hf, ok, hE, b1, b2⟩
      have hi : i < 4 := by
        have := (List.getElem?_eq_some_iff.mp hy).1
        rw [List.length_map] at this
        omega
      rw [List.getElem?_map] at hy
      obtain ⟨c, hci, rfl⟩ := Option.map_eq_some_iff.mp hy
      have hc4 := hlt c (List.mem_of_getElem? hci)
      have e12 := e1.trans e2
      obtain ⟨rt, hrt⟩ : ∃ rt, cs[c]? = some rt := ⟨cs[c], List.getElem?_eq_getElem hc4⟩
      have hrt2 : rtAt cs c = rt := by unfold rtAt; rw [List.getD_eq_getElem?_getD, hrt]; rfl
      obtain ⟨b, hb1, hb2⟩ := Pd.at hc hrt
      have okr := okc.all rt (List.mem_of_getElem? hrt)
      obtain ⟨k1, k2, k3, k4⟩ := rt_ok okc.all c
      rw [hrt2] at k1 k2 k3 k4
      obtain ⟨db, hb3⟩ := hb2.same e12
      refine ⟨_, rfl, x, _, dx, _, _, rfl, e12 _ _ hx, T.c_Chances, T.n_Chances_ratios, f1_get, _, rfl, t, _, _, _, rfl, rfl, Same.tup e12 ht, atI_nat (by rw [List.getElem?_map, hb1]; rfl), ?_⟩
      refine ⟨_, rfl, _, rfl, b, _, db, _, _, rfl, hb3, T.c_Ratio, T.n_Ratio_over, f2_a (by decide), _, rfl, b, _, db, _, _, rfl, hb3, T.c_Ratio, T.n_Ratio_under, f2_b, _, rfl, b, _, db, _, _, rfl, hb3, T.c_Ratio, T.n_Ratio_over, f2_a (by decide), _, _, rfl, rfl, ?_⟩
      refine rat_k ⟨rt.1, rt.2 - rt.1, rfl, k3, by omega, fun z3 H3 o3 u3 hz3 e3 N3 r3 => ?_⟩
      obtain ⟨df, hf3⟩ := hf.same e3
      obtain ⟨d3, r3'⟩ := id r3
      have c3 : o3.natAbs ≤ 8 := Nat.le_trans N3.ab (by omega)
      have c4 : u3.natAbs ≤ 8 := by have := N3.le; have := N3.ok.pos; omega
      have p3 : 8 ^ i ≤ 8 ^ 3 := Nat.pow_le_pow_right (by decide) (by omega)
      have p512 : (8 : Nat) ^ 3 = 512 := rfl
      refine ⟨f, df, _, z3, d3, _, rfl, rfl, hf3, r3', f, .ref z3, o, u, o3, u3, rfl, ⟨df, hf3⟩, .inl ⟨z3, rfl, r3⟩, by unfold S31; omega, by unfold S31; omega, by unfold S31; omega, by unfold S31; omega, ok.pos, N3.ok.pos, fun z4 H4 o4 u4 hz4 e4 N4 r4 => ?_⟩
      have q : 0 < u * u3 := Int.mul_pos ok.pos N3.ok.pos
      have E4 := eqv_mul hE N3.eqv N4 q
      refine ⟨(e2.trans e3).trans e4, _, _, z4, o4, u4, rfl, r4, N4.ok, ?_, ?_, ?_⟩
      · rw [List.take_add_one, hci]
        unfold wO wU
        rw [Option.toList_some, List.map_append, List.map_append, List.map_singleton, List.map_singleton, prod_snoc, prod_snoc, hrt2]
        exact E4
      · rw [Nat.pow_succ]
        exact Nat.le_trans N4.ab (nab b1 c3)
      · rw [Nat.pow_succ]
        have h1 := nab b2 c4
        have h2 : u4 ≤ u * u3 := N4.le
        have := N4.ok.pos
        omega
    · rintro σ H2 ⟨e2, v3, v4, f, o, u, rfl, hf, ok, hE, b1, b2⟩
      rw [List.length_map] at hE b1 b2
      rw [List.take_length] at hE
      have p4 : 8 ^ l.length ≤ 8 ^ 4 := Nat.pow_le_pow_right (by decide) hlen
      have p4096 : (8 : Nat) ^ 4 = 4096 := rfl
      exact ⟨_, rfl, hq f H2 o u (e1.trans e2) ok hE (by unfold S31; omega) (by unfold S31; omega) hf⟩
def spHeavier (K : PySem.W.Frag) : Sp := fun us H Q _ => ∃ (x a : Addr) (cs : List Rt) (l : List Nat), us = [.ref x, .ref a] ∧ ChAt K H x cs ∧ OkC cs ∧ LT K H a l ∧ l ∈ allLots cs.length ∧ ∀ H2, Same H H2 → Q (.bl (heavierN cs l)) H2
abbrev nm_hv : List Str := ["chances", "lot", "mine", "theirs"]
theorem sc_hv : FnScope nm_hv ["chances", "lot"] (defScope s_is_heavier) := ⟨rfl, rfl, rfl, by decide +kernel, rfl, by decide +kernel, by decide +kernel⟩
theorem r_hv (T : Ft K mg) : CalR P w K mg base 9 "is_heavier" (spHeavier K) := by
  refine cal_of T.g_is_heavier T.f_is_heavier sc_hv (fun _ _ _ _ _ _ us hl => match us, hl with | [_, _], _ => rfl) (fun vs H Q E h => ?_) fun cdv A outer s0 H us Q E hr h => ?_
  · obtain ⟨_, _, _, _, rfl, _⟩ := h; rfl
  · obtain ⟨x, a, cs, l, rfl, hx, okc, ha, hl, hq⟩ := h
    obtain ⟨dx, t, as, hx1, _, _⟩ := id hx
    have n4 := okc.n4
    have n1 := okc.n1
    have hll := allLots_llen hl
    refine ⟨_, pss_cons (ps_set (i := 2) sc_hv.nd rfl (.inl rfl) (pe_cr (r_we T) hr (by decide) rfl (pa_cons (pv 0) (pa_cons (pv 1) pa_nil))))
      (pss_cons (ps_set (i := 3) sc_hv.nd rfl (.inl rfl) (pe_cr (r_we T) hr (by decide) rfl (pa_cons (pv 0) (pa_cons (pe_cr (r_others T) hr (by decide) rfl (pa_cons (pe_callB (call_lenI (m_chlen T) hr (by decide)) rfl T.z_len boot_len (pa_cons (pv 0) pa_nil)) (pa_cons (pv 1) pa_nil))) pa_nil))))
      (pss_cons (ps_if (pt_cmpR (op_cmpI (fun _ _ => rfl) (m_req T) rfl hr (by decide)) (pv 2) (pv 3) (nomark _)) (pss_one (ps_ret (pe_cmpR (op_inK K) pe_int (pv 1) rfl))) pss_nil)
      (pss_one (ps_ret (pe_cmpR (op_cmpI (fun _ _ => rfl) (m_rgt T) rfl hr (by decide)) (pv 2) (pv 3) (nomark _)))))), ?_⟩
    refine ⟨_, rfl, _, rfl, x, a, cs, l, rfl, hx, okc, ha, allLots_lt hl, by omega, fun z1 H1 o u e1 ok hE s1 s2 r1 => ?_⟩
    refine ⟨_, rfl, _, rfl, x, dx, _, rfl, e1 _ _ hx1, x, cs, rfl, hx.same e1, cs.length, rfl, by omega, _, rfl, ?_⟩
    refine ⟨cs.length, a, l, rfl, n1, by omega, LT.same ha e1, allLots_lt hl, by omega, fun p H2 hp e2 hp2 => ?_⟩
    have e12 := e1.trans e2
    have hol := others_len cs.length l
    refine ⟨x, p, cs, others cs.length l, rfl, hx.same e12, okc, SqT.of hp2, others_lt _ _, by omega, fun z3 H3 o3 u3 e3 ok3 hE3 s3 s4 r3 => ?_⟩
    obtain ⟨d1, r1'⟩ := r1.same (e2.trans e3)
    obtain ⟨d3, r3'⟩ := id r3
    have e13 := e12.trans e3
    obtain ⟨w1, w2, w3⟩ := w_ok okc.all l
    obtain ⟨v1, v2, v3⟩ := w_ok okc.all (others cs.length l)
    obtain ⟨c1, c2⟩ := cross hE hE3 ok.pos ok3.pos w1 v1
    have ceq := (okr_eq ok ok3).trans c1
    refine ⟨_, rfl, _, rfl, z1, d1, _, rfl, r1', .inl ⟨z3, d3, _, rfl, r3'⟩, z1, z3, o, u, o3, u3, rfl, ⟨d1, r1'⟩, r3, _, rfl, ?_⟩
    by_cases h : wO cs l * wU cs (others cs.length l) = wO cs (others cs.length l) * wU cs l
    · obtain ⟨h1, h2⟩ := ceq.mpr h
      refine iteTb (by rw [decide_eq_true h1, decide_eq_true h2]; rfl) ?_
      refine ⟨_, rfl, inTup (c := 0) (LT.same ha e13) ?_⟩
      have := hq H3 e13
      unfold heavierN at this
      rw [if_pos h] at this
      exact this
    · refine iteFb ?_ ?_
      · cases q : (decide (o = o3) && decide (u = u3)) with
        | false => rfl
        | true =>
          obtain ⟨q1, q2⟩ := Bool.and_eq_true_iff.mp q
          exact absurd (ceq.mp ⟨of_decide_eq_true q1, of_decide_eq_true q2⟩) h
      · refine ⟨_, rfl, _, rfl, z1, d1, _, rfl, r1', .inl ⟨z3, d3, _, rfl, r3'⟩, z1, .ref z3, o, u, o3, u3, rfl, ⟨d1, r1'⟩, .inl ⟨z3, rfl, r3⟩, s1.sm, s3.sm, fun H4 e4 => ?_⟩
        have := hq H4 (e13.trans e4)
        unfold heavierN at this
        rw [if_neg h] at this
        rw [show decide (wO cs (others cs.length l) * wU cs l < wO cs l * wU cs (others cs.length l)) = decide (o3 * u < o * u3) from decide_eq_decide.mpr c2.symm] at this
        exact this
def spHeavy (K : PySem.W.Frag) : Sp := fun us H Q _ => ∃ (x : Addr) (cs : List Rt), us = [.ref x] ∧ ChAt K H x cs ∧ OkC cs ∧ ∀ p H', H p = none → Same H H' → FamAt K H' p cs.length (leastN cs.length (heavyLots cs)) → Q (.ref p) H'
abbrev nm_hy : List Str := ["chances", "lots", "lot"]
theorem sc_hy : FnScope nm_hy ["chances"] (defScope s_heavy) := ⟨rfl, rfl, rfl, by decide +kernel, rfl, by decide +kernel, by decide +kernel⟩
theorem r_heavy (T : Ft K mg) : CalR P w K mg base 10 "heavy" (spHeavy K) := by
  refine cal_of T.g_heavy T.f_heavy sc_hy (fun _ _ _ _ _ _ us hl => match us, hl with | [_], _ => rfl) (fun vs H Q E h => ?_) fun cdv A outer s0 H us Q E hr h => ?_
  · obtain ⟨_, _, rfl, _⟩ := h; rfl
  · obtain ⟨x, cs, rfl, hx, okc, hq⟩ := h
    obtain ⟨dx, t, as, hx1, _, _⟩ := id hx
    have n4 := okc.n4
    have n1 := okc.n1
    refine ⟨_, pss_cons (ps_setLc (i := 1) (own := [("lot", 2)]) (g := gName 2) rfl sc_hy.nd rfl rfl (sw_true rfl rfl rfl rfl) (pi_list (pe_cr (r_all_lots T) hr (by decide) rfl (pa_cons (pe_callB (call_lenI (m_chlen T) hr (by decide)) rfl T.z_len boot_len (pa_cons (pv 0) pa_nil)) pa_nil))) (blkOk_by (N := nm_hy) (sc := defScope s_heavy) (by decide +kernel)) (fun _ _ _ _ _ => pg_name (i := 2) sc_hy.nd rfl (.inl rfl))
          (fun _ _ _ _ _ => pts_one (pt_val (pe_cr (r_hv T) hr (by decide) rfl (pa_cons (pv 0) (pa_cons (pv 2) pa_nil))))) (fun _ _ _ _ _ => pv 2))
      (pss_one (ps_ret (pe_krS (mk_family T) hr (by decide) rfl (pa_cons (pe_callB (call_lenI (m_chlen T) hr (by decide)) rfl T.z_len boot_len (pa_cons (pv 0) pa_nil)) (StX.pa_star (pv 1) pa_nil))))), ?_⟩
    refine ⟨_, rfl, x, dx, _, rfl, hx1, x, cs, rfl, hx, cs.length, rfl, by omega, ?_⟩
    refine ⟨cs.length, rfl, n1, by omega, fun p bs H1 hp e1 hp1 hc => ?_⟩
    refine ⟨p, rfl, ⟨_, SqL.of hp1⟩, ?_⟩
    have hal : bs.length ≤ 256 := by rw [Pd.len hc]; exact allLots_256 (by omega)
    refine fun D hD => lc_pure (zs := allLots cs.length) (I := fun z x => ∃ a : Addr, x = V.ref a ∧ LT K H1 a z) (fun l => heavierN cs l) (fun z y H' => ∃ a : Addr, y = V.ref a ∧ LT K H' a z) lot_stay
      (walk_lst (SqL.of hp1)) (lots_in hc) (by rw [List.length_map]; omega) (fun _ => rfl) ?_ ?_ hD ?_
    · rintro z y H2 e2 m ⟨a, rfl, ha⟩ Q' q'
      have e12 := e1.trans e2
      exact ⟨_, rfl, _, rfl, x, a, cs, z, rfl, hx.same e12, okc, LT.same ha e2, m, fun H3 e3 => ⟨_, rfl, q' H3 e3⟩⟩
    · rintro z y H2 e2 m ⟨a, rfl, ha⟩ _ Q' q'
      exact ⟨_, rfl, q' _ _ (Same.refl _) ⟨a, rfl, LT.same ha e2⟩⟩
    · intro H2 ys e2 hys hp2
      obtain ⟨cs', rfl, hb⟩ := lots_out hp2
      have e12 := e1.trans e2
      refine ⟨_, rfl, x, dx, _, rfl, e12 _ _ hx1, x, cs, rfl, hx.same e12, cs.length, rfl, by omega, ?_⟩
      refine ⟨_, rfl, D, _, rfl, .inr (SqL.of hys), ?_⟩
      exact fam_k ⟨cs.length, cs', heavyLots cs, by rw [List.append_nil], hb, okc.heavy, fun z H3 hz e3 hf => hq z H3 (e12.free hz) (e12.trans e3) hf⟩
end
end K72

-- K72Trades
set_option Elab.async false
set_option linter.all false
set_option maxRecDepth 100000
set_option maxHeartbeats 4000000
/-! trades.py: tally, pairs_of, pair_fault, check_trade. -/
namespace K72
open PySem PySem.Spec PyProof.Rows L2
/-! ### the mirror -/
def inN (c : Nat) (l : List Nat) : Nat := if l.contains c then 1 else 0
def tallyN (a b : List Nat) : List Nat := (List.range 5).map fun c => inN c a + inN c b
def pairsFrom {α : Type} : List α → List (α × α)
  | [] => []
  | a :: r => (a :: r).map (fun b => (a, b)) ++ pairsFrom r
/-- xs[i], by values -/
theorem get_listI {X : Cx} : PGet X (fun o i H Q => ∃ p xs k v, o = .ref p ∧ i = vi k ∧ SqL X.K H p xs ∧ xs[k]? = some v ∧ Q v H) := by
  intro pins s σ H o i ov iv Q I ro ri h
  obtain ⟨p, xs, k, v, rfl, rfl, hp, hv, q⟩ := h
  cases (show ov = Value.ref p from ro)
  obtain ⟨t, rfl⟩ := (show ∃ t, iv = Value.int (k : Int) t from ri)
  obtain ⟨its, r, pl, hz⟩ := I.list hp
  obtain ⟨w, ew, rw'⟩ := r.get hv
  have hk : k < xs.length := (List.getElem?_eq_some_iff.mp hv).1
  rw [sizeLine_eq] at hz
  exact wpAny_getItem_list pl.isList (by omega) (by omega) (by rw [Int.toNat_natCast]; simpa using ew) ⟨v, H, I, rw', q⟩
section
variable {P : Program} {w : World} {K : PySem.W.Frag} {mg : Str → Option Value} {base : Heap}
/-! ### tally -/
def spTally (K : PySem.W.Frag) : Sp := fun us H Q _ => ∃ (a b : Addr) (l m : List Nat), us = [.ref a, .ref b] ∧ LT K H a l ∧ LT K H b m ∧ ∀ p H', H p = none → Same H H' → LS H' p (tallyN l m) → Q (.ref p) H'
abbrev nm_tally : List Str := ["first", "second", "copy"]
theorem sc_tally : FnScope nm_tally ["first", "second"] (defScope s_tally) := ⟨rfl, rfl, rfl, by decide +kernel, rfl, by decide +kernel, by decide +kernel⟩
theorem r_tally (T : Ft K mg) : CalR P w K mg base 1 "tally" (spTally K) := by
  refine cal_of T.g_tally T.f_tally sc_tally (fun _ _ _ _ _ _ us hl => match us, hl with | [_, _], _ => rfl) (fun vs H Q E h => ?_) fun cdv A outer s0 H us Q E hr h => ?_
  · obtain ⟨_, _, _, _, rfl, _⟩ := h; rfl
  · obtain ⟨a, b, l, m, rfl, ha, hb, hq⟩ := h
    refine ⟨_, pss_one (ps_ret (pe_callTy call_tuple_of rfl T.z_tuple boot_tuple (pa_cons
        (pe_lc (own := [("copy", 2)]) (g := gName 2) rfl sc_tally.nd (pi_range1 rfl T.z_range (pa_cons (pe_gc rfl T.i_MOST_FOUND_trades) pa_nil)) (blkOk_by (N := nm_tally) (sc := defScope s_tally) (by decide +kernel)) (fun _ _ _ _ _ => pg_name (i := 2) sc_tally.nd rfl (.inl rfl))
          (fun _ _ _ _ _ => pts_nil) (fun _ _ _ _ _ => pe_op op_add (pe_callTy call_int1 rfl T.z_int boot_int (pa_cons (pe_cmpR (op_inK K) (pv 2) (pv 0) rfl) pa_nil)) (pe_callTy call_int1 rfl T.z_int boot_int (pa_cons (pe_cmpR (op_inK K) (pv 2) (pv 1) rfl) pa_nil)))) pa_nil))), ?_⟩
    refine ⟨_, rfl, by omega, by omega, ?_⟩
    refine fun D hD => lc_rngV (n := 5) (fun _ => true) (fun c => vi (inN c l + inN c m)) (by omega) (fun _ => rfl) (fun z H1 e m Q' q' => q' _ (Same.refl _)) ?_ hD ?_
    · intro c H1 e hm _ Q' q'
      refine ⟨_, rfl, _, rfl, inTup (c := c) (LT.same ha e) (.inr ⟨_, rfl, ?_⟩)⟩
      refine ⟨_, rfl, _, rfl, inTup (c := c) (LT.same hb e) (.inr ⟨_, rfl, _, _, rfl, rfl, ?_⟩)⟩
      have e1 : V.int ((if l.contains c = true then (1 : Int) else 0) + (if m.contains c = true then 1 else 0)) = vi (inN c l + inN c m) := by
        unfold inN vi
        congr 1
        split <;> split <;> rfl
      have := q' H1 (Same.refl _)
      rw [← e1] at this
      exact this
    · intro H1 e hH1
      rw [List.filter_eq_self.mpr (fun _ _ => rfl)] at hH1
      refine ⟨D, _, rfl, .inl ⟨SqL.of hH1, fun p hp => hq p _ (e.free hp) (e.trans (Same.new hp)) ?_⟩⟩
      show _ = _
      rw [upd_same]
      unfold tallyN
      rw [List.map_map]
      rfl
/-! ### pairs_of -/
/-- a pair of two references -/
def PrAt (H : Hp) (p : Addr) (ab : Addr × Addr) : Prop := H p = some (.tup [.ref ab.1, .ref ab.2])
def spPairs (K : PySem.W.Frag) : Sp := fun us H Q _ => ∃ (a : Addr) (as : List Addr), us = [.ref a] ∧ SqL K H a (as.map V.ref) ∧ as.length ≤ 100 ∧ ∀ p ps H', H p = none → Same H H' → H' p = some (.lst (ps.map V.ref)) → Paired (PrAt H') ps (pairsFrom as) → Q (.ref p) H'
abbrev nm_pairs : List Str := ["lots", "found", "place", "first", "second"]
theorem sc_pairs : FnScope nm_pairs ["lots"] (defScope s_pairs_of) := ⟨rfl, rfl, rfl, by decide +kernel, rfl, by decide +kernel, by decide +kernel⟩
theorem pairs_len {α : Type} : ∀ l : List α, (pairsFrom l).length ≤ l.length * l.length
  | [] => Nat.le_refl _
  | a :: r => by
    have := pairs_len r
    show ((a :: r).map _ ++ pairsFrom r).length ≤ _
    rw [List.length_append, List.length_map, List.length_cons, Nat.mul_succ, Nat.succ_mul]
    omega
theorem pairs_drop {α : Type} : ∀ (l : List α) (i : Nat) (a : α), l[i]? = some a → pairsFrom (l.drop i) = (l.drop i).map (fun b => (a, b)) ++ pairsFrom (l.drop (i + 1))
  | [], _, _, h => by simp at h
  | x :: r, 0, a, h => by simp at h; subst h; rfl
  | x :: r, i + 1, a, h => by simpa using pairs_drop r i a (by simpa using h)
theorem r_pairs (T : Ft K mg) : CalR P w K mg base 1 "pairs_of" (spPairs K) := by
  refine cal_of T.g_pairs_of T.f_pairs_of sc_pairs (fun _ _ _ _ _ _ us hl => match us, hl with | [_], _ => rfl) (fun vs H Q E h => ?_) fun cdv A outer s0 H us Q E hr h => ?_
  · obtain ⟨_, _, rfl, _⟩ := h; rfl
  · obtain ⟨a, as, rfl, ha, hlen, hq⟩ := h
    refine ⟨_, pss_cons (ps_set (i := 1) sc_pairs.nd rfl (.inl rfl) (pe_lst pa_nil))
      (pss_cons (ps_for PassesOwn.never rfl (pi_enum rfl T.z_enumerate (pa_cons (pv 0) pa_nil)) (pg_tup rfl (pgs_cons (pg_name (i := 2) sc_pairs.nd rfl (.inl rfl)) (pgs_cons (pg_name (i := 3) sc_pairs.nd rfl (.inr rfl)) pgs_nil)))
        (pss_one (ps_expr (pe_bm PySem.F.plainAttrs_list PySem.F.slot_list_extend PySem.F.type_list_extend mt_extend (pv 1) (pa_cons
          (pe_lc (own := [("second", 4)]) (g := gName 4) rfl sc_pairs.nd (pi_list (pe_slice sl_list (pv 0) (po_some (pv 2)) po_none)) (blkOk_by (N := nm_pairs) (sc := defScope s_pairs_of) (by decide +kernel)) (fun _ _ _ _ _ => pg_name (i := 4) sc_pairs.nd rfl (.inl rfl))
            (fun _ _ _ _ _ => pts_nil) (fun _ _ _ _ _ => pe_tup (pa_cons (pv 3) (pa_cons (pv 4) pa_nil)))) pa_nil)))))
      (pss_one (ps_ret (pv 1)))), ?_⟩
    refine ⟨line_of (by show 0 ≤ 100000; decide), fun F hF => ?_⟩
    have e0 : Same H (upd H F (.lst [])) := Same.new hF
    have haF : ∀ H', Same H H' → SqL K H' a (as.map V.ref) := fun H' e => e.seq ha
    refine ⟨_, rfl, a, _, rfl, haF _ e0, ?_⟩
    refine for_enumL (xs := as.map V.ref) (fun i σ H' => Same H H' ∧ ∃ ps v2 v3, σ = [some (.ref a), some (.ref F), v2, v3, none] ∧ H' F = some (.lst (ps.map V.ref)) ∧ ∃ done, Paired (PrAt H') ps done ∧ done ++ pairsFrom (as.drop i) = pairsFrom as ∧ done.length ≤ i * 100)
      ⟨e0, [], none, none, rfl, upd_same, [], .nil, rfl, Nat.zero_le _⟩ (fun i σ H' h => haF _ h.1) ?_ ?_
    · rintro i y σ H1 Tp hy ⟨e1, ps, v2, v3, rfl, hF1, done, hp1, hd1, hl1⟩ hT
      rw [List.getElem?_map] at hy
      obtain ⟨b, hb, rfl⟩ := Option.map_eq_some_iff.mp hy
      have hi : i < as.length := (List.getElem?_eq_some_iff.mp hb).1
      have e2 : Same H (upd H1 Tp (.tup [.int (i : Nat), .ref b])) := e1.trans (Same.new hT)
      refine ⟨Tp, _, rfl, SqT.of upd_same, rfl, _, _, rfl, _, _, rfl, rfl, ?_⟩
      have hFT : F ≠ Tp := fun e => by rw [e] at hF1; rw [hF1] at hT; cases hT
      have h5 : (upd H1 Tp (.tup [.int (i : Nat), .ref b])) F = some (.lst (ps.map V.ref)) := by rw [upd_ne hFT]; exact hF1
      refine ⟨_, rfl, .inl ⟨rfl, _, SqL.of h5⟩, ?_⟩
      refine ⟨_, rfl, _, rfl, _, rfl, a, _, rfl, haF _ e2, fun c hc => ⟨c, rfl, ⟨_, SqL.of upd_same⟩, ?_⟩⟩
      have ecut : cutV (as.map V.ref) (some ((i : Nat) : Int)) none = (as.drop i).map V.ref := by
        unfold cutV
        rw [HT.sIx_nat, HT.sIx_none, List.length_map, Nat.min_eq_left (Nat.le_of_lt hi), ← List.map_drop, List.take_of_length_le (by simp)]
      rw [ecut]
      have e3 : Same H (upd (upd H1 Tp (.tup [.int (i : Nat), .ref b])) c (.lst ((as.drop i).map V.ref))) := e2.trans (Same.new hc)
      have h6 : (upd (upd H1 Tp (.tup [.int (i : Nat), .ref b])) c (.lst ((as.drop i).map V.ref))) F = some (.lst (ps.map V.ref)) := by
        rw [upd_ne (fun e => by rw [e] at h5; rw [h5] at hc; cases hc)]
        exact h5
      refine fun D hD => lc_pure (zs := as.drop i) (I := fun (z : Addr) x => x = V.ref z) (fun _ => true) (fun z y H' => ∃ p : Addr, y = V.ref p ∧ PrAt H' p (b, z)) (fun z v H H' e ⟨p, h1, h2⟩ => ⟨p, h1, e _ _ h2 (fun _ q => by cases q)⟩)
        (walk_lst (SqL.of upd_same)) (pd_map _) (by rw [List.length_map, List.length_drop]; omega) (fun _ => rfl) (fun z x H1 e1 hz hI Q' q' => q' _ (Same.refl _)) ?_ hD ?_
      · rintro z x H4 e4 m rfl _ Q' q'
        refine ⟨_, rfl, _, rfl, line_of (by show 2 ≤ 100000; decide), fun p hp => q' _ _ (Same.new hp) ⟨p, rfl, upd_same⟩⟩
      · intro H4 ys e4 hys hp4
        rw [List.filter_eq_self.mpr (fun _ _ => rfl)] at hp4
        obtain ⟨qs, rfl, hqs⟩ := pd_refs hp4
        have hF4 : H4 F = some (.lst (ps.map V.ref)) := e4 _ _ h6
        have hDF : D ≠ F := fun e => by rw [e, h6] at hD; cases hD
        have hpl : ps.length ≤ i * 100 := by rw [Pd.len hp1]; exact hl1
        have hql : qs.length ≤ 100 := by rw [← Pd.len hqs, List.length_drop]; omega
        have hi100 : i * 100 ≤ 10000 := by omega
        refine ⟨F, D, _, _, rfl, rfl, hF4, hys, line_of (by rw [List.length_map, List.length_map]; omega), ?_⟩
        have e5 : SameX H1 H4 := ((Same.new (o := .tup [.int (i : Nat), .ref b]) hT).trans ((Same.new (o := .lst ((as.drop i).map V.ref)) hc).trans e4)).x
        have e6 : SameX H4 (upd H4 F (.lst (ps.map V.ref ++ qs.map V.ref))) := SameX.lst hF4
        have kp : ∀ p ab, PrAt H4 p ab → PrAt (upd H4 F (.lst (ps.map V.ref ++ qs.map V.ref))) p ab := fun p ab h => e6 _ _ h (fun _ q => by cases q)
        refine ⟨Same.mut (e3.trans e4) hF, ps ++ qs, _, _, rfl, by rw [upd_same, List.map_append], done ++ (as.drop i).map (fun z => (b, z)), ?_, ?_, ?_⟩
        · refine Pd.app (Pd.imp (fun p ab h => kp _ _ (e5 _ _ h (fun _ q => by cases q))) hp1) ?_
          exact pd_swap (pd_mapL (Pd.imp (fun z p h => kp _ _ h) hqs))
        · rw [List.append_assoc, ← pairs_drop as i b hb]
          exact hd1
        · rw [List.length_append, List.length_map, List.length_drop]
          omega
    · rintro σ H1 ⟨e1, ps, v2, v3, rfl, hF1, done, hp1, hd1, hl1⟩
      rw [List.length_map, List.drop_length] at hd1
      have : done = pairsFrom as := by rw [← hd1]; simp [pairsFrom]
      subst this
      exact ⟨_, rfl, hq F ps H1 hF e1 hF1 hp1⟩
end
end K72

-- K72Trades2
set_option Elab.async false
set_option linter.all false
set_option maxRecDepth 100000
set_option maxHeartbeats 4000000
/-! trades.py: pair_fault, check_trade. -/
namespace K72
open PySem PySem.Spec PyProof.Rows L2
theorem lot_nd {n : Nat} {l : List Nat} (h : l ∈ allLots n) : l.Nodup := by
  rw [← filt_self h]
  exact List.nodup_range.sublist List.filter_sublist
theorem count_one {c : Nat} : ∀ {l : List Nat}, l.Nodup → c ∈ l → l.count c = 1
  | [], _, h => nomatch h
  | a :: r, nd, h => by
    rw [List.nodup_cons] at nd
    rw [List.count_cons]
    by_cases q : a = c
    · subst q
      rw [List.count_eq_zero.mpr nd.1]
      simp
    · have : (a == c) = false := by simpa using q
      rw [this, count_one nd.2 ((List.mem_cons.mp h).resolve_left (fun e => q e.symm))]
      rfl
theorem inN_count {c : Nat} {l : List Nat} (h : l.Nodup) : l.count c = inN c l := by
  unfold inN
  by_cases q : c ∈ l
  · rw [if_pos (by simpa using q)]
    exact count_one h q
  · rw [if_neg (by simpa using q)]
    exact List.count_eq_zero.mpr q
theorem tally_at {a b c d : List Nat} (h : tallyN a b = tallyN c d) {i : Nat} (hi : i < 5) : inN i a + inN i b = inN i c + inN i d := by
  have e := congrArg (fun l => l[i]?) h
  simp only [tallyN, List.getElem?_map, List.getElem?_range hi, Option.map_some] at e
  exact Option.some.inj e
/-- the number at each copy -/
def spareV (n : Nat) (f : Nat → Int) : List V := (List.range n).map fun c => V.int (f c)
theorem spare_set {n c : Nat} {f : Nat → Int} {v : Int} (h : c < n) : (spareV n f).set c (V.int v) = spareV n fun d => if d = c then v else f d := by
  unfold spareV
  apply List.ext_getElem?
  intro i
  rw [List.getElem?_set, List.getElem?_map, List.getElem?_map]
  by_cases e : c = i
  · subst e
    rw [if_pos rfl, List.length_map, List.length_range, if_pos h, List.getElem?_range h]
    simp
  · rw [if_neg e]
    cases q : (List.range n)[i]? with
    | none => rfl
    | some d =>
      have : d = i := by
        have := List.getElem?_range (n := n) (i := i) (by have := (List.getElem?_eq_some_iff.mp q).1; simpa using this)
        rw [this] at q
        exact (Option.some.inj q).symm
      subst this
      simp [Ne.symm e]
theorem spare_at {n c : Nat} {f : Nat → Int} (h : c < n) : (spareV n f)[c]? = some (V.int (f c)) := by
  unfold spareV
  rw [List.getElem?_map, List.getElem?_range h]; rfl
theorem spare_zero {n : Nat} : (List.replicate n [V.int 0]).flatten = spareV n fun _ => 0 := by
  unfold spareV
  rw [show (fun (_ : Nat) => V.int 0) = Function.const Nat (V.int 0) from rfl, List.map_const, List.length_range]
  induction n with
  | zero => rfl
  | succ n ih => rw [List.replicate_succ, List.flatten_cons, ih]; rfl
section
variable {P : Program} {w : World} {K : PySem.W.Frag} {mg : Str → Option Value} {base : Heap}
def spFault (K : PySem.W.Frag) : Sp := fun us H Q _ => ∃ (x a b : Addr) (n : Nat) (ls : List (List Nat)) (l m : List Nat), us = [.ref x, .ref a, .ref b] ∧ FamAt K H x n ls ∧ OkL n ls ∧ LT K H a l ∧ LT K H b m ∧ l ∈ allLots n ∧ m ∈ allLots n ∧ containsN ls l = true ∧ containsN ls m = false ∧ ∀ H', Same H H' → Q .non H'
abbrev nm_pf : List Str := ["family", "given", "taken"]
theorem sc_pf : FnScope nm_pf ["family", "given", "taken"] (defScope s_pair_fault) := ⟨rfl, rfl, rfl, by decide +kernel, rfl, by decide +kernel, by decide +kernel⟩
theorem r_pf (T : Ft K mg) : CalR P w K mg base 3 "pair_fault" (spFault K) := by
  refine cal_of T.g_pair_fault T.f_pair_fault sc_pf (fun _ _ _ _ _ _ us hl => match us, hl with | [_, _, _], _ => rfl) (fun vs H Q E h => ?_) fun cdv A outer s0 H us Q E hr h => ?_
  · obtain ⟨_, _, _, _, _, _, _, rfl, _⟩ := h; rfl
  · obtain ⟨x, a, b, n, ls, l, m, rfl, fx, ok, ha, hb, hl, hm, cl, cm, hq⟩ := h
    obtain ⟨dx, t, as, hx, _, _⟩ := id fx
    have h5 := ok.n5
    have hll := allLots_llen hl
    have hml := allLots_llen hm
    refine ⟨_, pss_cons (ps_if (PW.pt (pw_or (pt_not (pt_val (pe_cr (r_is_lot_like T) hr (by decide) rfl (pa_cons (pe_fldK K (pv 0)) (pa_cons (pv 1) pa_nil)))))
        (pw_or1 (pt_not (pt_val (pe_mr (m_contains T) hr (by decide) (pv 0) (pa_cons (pe_callTy call_tuple_of rfl T.z_tuple boot_tuple (pa_cons (pv 1) pa_nil)) pa_nil))))))) (pss_one ps_never) pss_nil)
      (pss_cons (ps_if (PW.pt (pw_or (pt_not (pt_val (pe_cr (r_is_lot_like T) hr (by decide) rfl (pa_cons (pe_fldK K (pv 0)) (pa_cons (pv 2) pa_nil)))))
        (pw_or1 (pt_val (pe_mr (m_contains T) hr (by decide) (pv 0) (pa_cons (pe_callTy call_tuple_of rfl T.z_tuple boot_tuple (pa_cons (pv 2) pa_nil)) pa_nil)))))) (pss_one ps_never) pss_nil)
      (pss_one (ps_ret pe_non))), ?_⟩
    refine ⟨_, rfl, x, _, dx, _, _, rfl, hx, T.c_Family, T.n_Family_copies, f2_a (by decide), _, rfl, n, a, l, rfl, ha, allLots_lt hl, by omega, fun H1 e1 => ⟨_, rfl, ?_⟩⟩
    refine iteF ?_
    refine ⟨_, rfl, x, dx, _, rfl, e1 _ _ hx, f2_no (by decide) (by decide), _, rfl, a, _, rfl, .inr ⟨LT.same ha e1, ?_⟩⟩
    refine ⟨x, a, n, ls, l, rfl, fx.same e1, ok, LT.same ha e1, fun H2 e2 => ⟨_, rfl, ?_⟩⟩
    rw [cl]
    refine iteF ?_
    have e12 := e1.trans e2
    refine ⟨_, rfl, x, _, dx, _, _, rfl, e12 _ _ hx, T.c_Family, T.n_Family_copies, f2_a (by decide), _, rfl, n, b, m, rfl, LT.same hb e12, allLots_lt hm, by omega, fun H3 e3 => ⟨_, rfl, ?_⟩⟩
    refine iteF ?_
    have e13 := e12.trans e3
    refine ⟨_, rfl, x, dx, _, rfl, e13 _ _ hx, f2_no (by decide) (by decide), _, rfl, b, _, rfl, .inr ⟨LT.same hb e13, ?_⟩⟩
    refine ⟨x, b, n, ls, m, rfl, fx.same e13, ok, LT.same hb e13, fun H4 e4 => ⟨_, rfl, ?_⟩⟩
    rw [cm]
    exact iteF (hq H4 (e13.trans e4))
/-- a trade of two pairs -/
structure Trade (n : Nat) (ls : List (List Nat)) (g1 t1 g2 t2 : List Nat) : Prop where
  g1m : g1 ∈ allLots n
  t1m : t1 ∈ allLots n
  g2m : g2 ∈ allLots n
  t2m : t2 ∈ allLots n
  g1i : containsN ls g1 = true
  t1o : containsN ls t1 = false
  g2i : containsN ls g2 = true
  t2o : containsN ls t2 = false
  eq : tallyN g1 g2 = tallyN t1 t2
def TradeAt (K : PySem.W.Frag) (H : Hp) (p : Addr) (g1 t1 g2 t2 : List Nat) : Prop := ∃ p1 p2 a b c d, SqL K H p [.ref p1, .ref p2] ∧ PrAt H p1 (a, b) ∧ PrAt H p2 (c, d) ∧ LT K H a g1 ∧ LT K H b t1 ∧ LT K H c g2 ∧ LT K H d t2
def spCheckT (K : PySem.W.Frag) : Sp := fun us H Q _ => ∃ (x p : Addr) (n : Nat) (ls : List (List Nat)) (g1 t1 g2 t2 : List Nat), us = [.ref x, .ref p] ∧ FamAt K H x n ls ∧ OkL n ls ∧ TradeAt K H p g1 t1 g2 t2 ∧ Trade n ls g1 t1 g2 t2 ∧ ∀ H', Same H H' → Q (.bl true) H'
abbrev nm_ct : List Str := ["family", "pairs", "spare", "place", "given", "taken", "reason", "copy", "number"]
theorem sc_ct : FnScope nm_ct ["family", "pairs"] (defScope s_check_trade) := ⟨rfl, rfl, rfl, by decide +kernel, rfl, by decide +kernel, by decide +kernel⟩
/-- all but the list at S is as it was -/
def But (S : Addr) (H H' : Hp) : Prop := ∀ a o, H a = some o → a ≠ S → H' a = some o
theorem But.refl {S : Addr} (H : Hp) : But S H H := fun _ _ h _ => h
theorem But.trans {S : Addr} {H H1 H2 : Hp} (a : But S H H1) (b : But S H1 H2) : But S H H2 := fun c o h n => b c o (a c o h n) n
theorem But.of {S : Addr} {H H' : Hp} (e : Same H H') : But S H H' := fun a o h _ => e a o h
theorem But.upd {S : Addr} {H : Hp} {o : HO} : But S H (upd H S o) := fun a u h n => by rw [upd_ne n]; exact h
theorem But.tup {S : Addr} {K : PySem.W.Frag} {H H' : Hp} {a : Addr} {xs ys : List V} (e : But S H H') (hS : H S = some (.lst ys)) (h : SqT K H a xs) : SqT K H' a xs := by
  rcases h with (h | ⟨o, h⟩) | h
  · exact .inl (.inl (e _ _ h (fun q => by rw [q, hS] at h; cases h)))
  · exact .inl (.inr ⟨o, e _ _ h (fun q => by rw [q, hS] at h; cases h)⟩)
  · exact .inr h
/-- for copy in a lot: spare[copy] += d -/
theorem for_spare {K : PySem.W.Frag} {H0 : Hp} {S a : Addr} {n : Nat} {f : Nat → Int} {l : List Nat} {d : Int} {v0 v1 v2 v3 v4 v5 v6 v8 : Option V} {D : Ends} {tip : TIp} (htip : ∀ (x : Int) H (Q : VK), Q (.int (x + d)) H → tip (.int x) (.int 1) H Q) (hS : H0 S = some (.lst (spareV n f))) (ha : LT K H0 a l) (hl : ∀ c ∈ l, c < n) (h2 : v2 = some (V.ref S)) (nx : ∀ v H', But S H0 H' → H' S = some (.lst (spareV n fun c => f c + d * (l.count c : Int))) → D.nx [v0, v1, v2, v3, v4, v5, v6, v, v8] H') (v7 : Option V) :
    ∃ W : Nat → Nat → L2.St → Hp → Prop, (∃ m, W 0 m [v0, v1, v2, v3, v4, v5, v6, v7, v8] H0) ∧ ∀ i m σ H, W i m σ H →
      ((Itt K a).stop i H ∧ D.nx σ H) ∨ ((Itt K a).go i H ∧ ∃ N : L2.St → Hp → Prop, (∀ σ' H', N σ' H' → ∃ m', m' < m ∧ W (i + 1) m' σ' H') ∧ ∀ x H', (Itt K a).yld i H x H' → gName 7 x σ H' fun σ2 H2 =>
        tAugS (tVar 2) (tVar 7) (tC (.int 1)) (fun o i H Q => ∃ p xs k v, o = .ref p ∧ i = vi k ∧ SqL K H p xs ∧ xs[k]? = some v ∧ Q v H) tip rSetL { D with nx := N, ct := N, bk := D.nx } σ2 H2) := by
  subst h2
  refine for_walk2 (J := Itt K a) (xs := l.map vi) (H1 := H0) (g := gName 7) (fun i σ H => But S H0 H ∧ (∃ v, σ = [v0, v1, some (V.ref S), v3, v4, v5, v6, v, v8]) ∧ H S = some (.lst (spareV n fun c => f c + d * ((l.take i).count c : Int))))
    ⟨But.refl _, ⟨v7, rfl⟩, by simpa using hS⟩ (fun i σ H h => walk_tup (h.1.tup hS ha)) ?_ ?_
  · rintro i y σ H hy ⟨e, ⟨v, rfl⟩, hs⟩
    rw [List.getElem?_map] at hy
    obtain ⟨c, hc, rfl⟩ := Option.map_eq_some_iff.mp hy
    have hcn := hl c (List.mem_of_getElem? hc)
    refine ⟨_, rfl, _, rfl, S, _, c, _, rfl, rfl, SqL.of hs, spare_at hcn, htip _ _ _ ?_⟩
    refine ⟨S, _, (c : Int), c, rfl, rfl, hs, ?_, ?_⟩
    · unfold ixN
      rw [if_pos (by omega), if_pos (by unfold spareV; rw [List.length_map, List.length_range]; omega), Int.toNat_natCast]
    · refine ⟨e.trans But.upd, ⟨_, rfl⟩, ?_⟩
      rw [upd_same, spare_set hcn]
      congr 3
      funext k
      rw [List.take_add_one, hc, Option.toList_some, List.count_append, List.count_singleton]
      by_cases q : k = c
      · subst q
        rw [if_pos rfl]
        simp [Int.mul_add]
        omega
      · rw [if_neg q]
        have : (c == k) = false := by simpa using Ne.symm q
        simp [this]
  · rintro σ H ⟨e, ⟨v, rfl⟩, hs⟩
    rw [List.length_map, List.take_length] at hs
    exact nx v H e hs
end
end K72

-- K72Trades3
set_option Elab.async false
set_option linter.all false
set_option maxRecDepth 100000
set_option maxHeartbeats 4000000
/-! trades.py: check_trade, walked. -/
namespace K72
open PySem PySem.Spec PyProof.Rows L2
theorem But.same {S : Addr} {H H0 H' : Hp} (hS : H S = none) (e : Same H H0) (b : But S H0 H') : Same H H' := fun a o h => b a o (e a o h) (fun q => by rw [q, hS] at h; cases h)
section
variable {P : Program} {w : World} {K : PySem.W.Frag} {mg : Str → Option Value} {base : Heap}
theorem tip_add (d : Int) (hd : d = 1) : ∀ (x : Int) (H : Hp) (Q : VK), Q (.int (x + d)) H → ipI (fun i j => i + j) (.int x) (.int 1) H Q := fun x H Q q => ⟨x, 1, rfl, rfl, by subst hd; exact q⟩
theorem tip_sub (d : Int) (hd : d = -1) : ∀ (x : Int) (H : Hp) (Q : VK), Q (.int (x + d)) H → ipI (fun i j => i - j) (.int x) (.int 1) H Q := fun x H Q q => ⟨x, 1, rfl, rfl, by subst hd; exact q⟩
theorem r_ct (T : Ft K mg) : CalR P w K mg base 4 "check_trade" (spCheckT K) := by
  refine cal_of T.g_check_trade T.f_check_trade sc_ct (fun _ _ _ _ _ _ us hl => match us, hl with | [_, _], _ => rfl) (fun vs H Q E h => ?_) fun cdv A outer s0 H us Q E hr h => ?_
  · obtain ⟨_, _, _, _, _, _, _, _, rfl, _⟩ := h; rfl
  · obtain ⟨x, p, n, ls, g1, t1, g2, t2, rfl, fx, ok, ⟨p1, p2, a, b, c, d, hp, hp1, hp2, ha, hb, hc, hd⟩, tr, hq⟩ := h
    obtain ⟨dx, t, as, hx, _, _⟩ := id fx
    have h1 := ok.n1
    have h5 := ok.n5
    refine ⟨_, pss_cons (ps_set (i := 2) sc_ct.nd rfl (.inl rfl) (pe_op op_rep (pe_lst (pa_cons pe_int pa_nil)) (pe_fldK K (pv 0))))
      (pss_cons (ps_for PassesOwn.never rfl (pi_enum rfl T.z_enumerate (pa_cons (pv 1) pa_nil)) (pg_tup rfl (pgs_cons (pg_name (i := 3) sc_ct.nd rfl (.inl rfl)) (pgs_cons (pg_tup rfl (pgs_cons (pg_name (i := 4) sc_ct.nd rfl (.inl rfl)) (pgs_cons (pg_name (i := 5) sc_ct.nd rfl (.inl rfl)) pgs_nil))) pgs_nil)))
        (pss_cons (ps_set (i := 6) sc_ct.nd rfl (.inl rfl) (pe_cr (r_pf T) hr (by decide) rfl (pa_cons (pv 0) (pa_cons (pv 4) (pa_cons (pv 5) pa_nil)))))
        (pss_cons (ps_if (pt_cmp (pc_notN (pv 6))) (pss_one ps_never) pss_nil)
        (pss_cons (ps_for PassesOwn.never rfl (pi_tup (pe_cr (r_lot_of T) hr (by decide) rfl (pa_cons (pe_fldK K (pv 0)) (pa_cons (pv 4) pa_nil)))) (pg_name (i := 7) sc_ct.nd rfl (.inl rfl))
          (pss_one (ps_augS (pv 2) (pv 7) get_listI pe_int ip_add set_list)))
        (pss_one (ps_for PassesOwn.never rfl (pi_tup (pe_cr (r_lot_of T) hr (by decide) rfl (pa_cons (pe_fldK K (pv 0)) (pa_cons (pv 5) pa_nil)))) (pg_name (i := 7) sc_ct.nd rfl (.inl rfl))
          (pss_one (ps_augS (pv 2) (pv 7) get_listI pe_int ip_sub set_list))))))))
      (pss_cons (ps_if (PW.pt (pw_or (pt_cmpR op_eq (pe_callB (call_lenK K) rfl T.z_len boot_len (pa_cons (pv 1) pa_nil)) pe_int (nomark _))
          (pw_or1 (pt_val (pe_callB (cr_anyK K rfl) rfl T.z_any boot_any (pa_cons
            (pe_lc (own := [("number", 8)]) (g := gName 8) rfl sc_ct.nd (pi_list (pv 2)) (blkOk_by (N := nm_ct) (sc := defScope s_check_trade) (by decide +kernel)) (fun _ _ _ _ _ => pg_name (i := 8) sc_ct.nd rfl (.inl rfl))
              (fun _ _ _ _ _ => pts_nil) (fun _ _ _ _ _ => pe_cmpR op_ne (pv 8) pe_int (nomark _))) pa_nil)))))) (pss_one ps_never) pss_nil)
      (pss_one (ps_ret pe_bl)))), ?_⟩
    refine ⟨line_of (by show 1 ≤ 100000; decide), fun L hL => ?_⟩
    have e0 : Same H (upd H L (.lst [.int 0])) := Same.new hL
    refine ⟨_, rfl, x, _, dx, _, _, rfl, e0 _ _ hx, T.c_Family, T.n_Family_copies, f2_a (by decide), ?_⟩
    refine ⟨L, (n : Int), [.int 0], rfl, rfl, upd_same, by omega, by omega, line_of (by rw [Int.toNat_natCast]; show 1 * n ≤ 100000; omega), fun S hS => ?_⟩
    have e1 : Same H (upd (upd H L (.lst [.int 0])) S (.lst (List.replicate (n : Int).toNat [V.int 0]).flatten)) := e0.trans (Same.new hS)
    have hSn : H S = none := e0.free hS
    have hS1 : (upd (upd H L (.lst [.int 0])) S (.lst (List.replicate (n : Int).toNat [V.int 0]).flatten)) S = some (.lst (spareV n fun _ => 0)) := by rw [upd_same, Int.toNat_natCast, spare_zero]
    generalize hH1 : upd (upd H L (.lst [.int 0])) S (.lst (List.replicate (n : Int).toNat [V.int 0]).flatten) = H1 at e1 hS1
    have lt1 := allLots_lt tr.g1m
    -- one pair
    have turn : ∀ (f : Nat → Int) (v3 v6 v7 : Option V) (q g u : Addr) (lg lt : List Nat) (i : Nat) (H2 : Hp) (Tp : Addr) (D : Ends), Same H H2 → H2 S = some (.lst (spareV n f)) → PrAt H q (g, u) → LT K H g lg → LT K H u lt → lg ∈ allLots n → lt ∈ allLots n → containsN ls lg = true → containsN ls lt = false → H2 Tp = none → ∀ (v4 v5 : Option V),
        (∀ v H', Same H H' → H' S = some (.lst (spareV n fun c => f c + (lg.count c : Int) - (lt.count c : Int))) → D.nx [some (.ref x), some (.ref p), some (.ref S), some (.int (i : Nat)), some (.ref g), some (.ref u), some V.non, v, none] H') →
        gTup K 2 (gCons (gName 3) (gCons (gTup K 2 (gCons (gName 4) (gCons (gName 5) gNil))) gNil)) (.ref Tp) [some (.ref x), some (.ref p), some (.ref S), v3, v4, v5, v6, v7, none] (upd H2 Tp (.tup [.int (i : Nat), .ref q])) fun σ2 H3 =>
          tSeq (tAsg (tCR (spFault K) (tCons (tVar 0) (tCons (tVar 4) (tCons (tVar 5) tNil)))) (gName 6)) (tSeq (tIfS (tB (tNotN (tVar 6))) tNever tNext)
            (tSeq (tFor (iTup K (tCR (spLotOf K) (tCons (tFld K (tVar 0) "copies") (tCons (tVar 4) tNil)))) (gName 7) (tAugS (tVar 2) (tVar 7) (tC (.int 1)) (fun o i H Q => ∃ p xs k v, o = .ref p ∧ i = vi k ∧ SqL K H p xs ∧ xs[k]? = some v ∧ Q v H) (ipI fun i j => i + j) rSetL))
              (tFor (iTup K (tCR (spLotOf K) (tCons (tFld K (tVar 0) "copies") (tCons (tVar 5) tNil)))) (gName 7) (tAugS (tVar 2) (tVar 7) (tC (.int 1)) (fun o i H Q => ∃ p xs k v, o = .ref p ∧ i = vi k ∧ SqL K H p xs ∧ xs[k]? = some v ∧ Q v H) (ipI fun i j => i - j) rSetL)))) D σ2 H3 := by
      intro f v3 v6 v7 q g u lg lt i H2 Tp D e2 hs hq0 hg hu mg mt cg ctt hTp v4 v5 nx
      have hSTp : S ≠ Tp := fun e => by rw [e] at hs; rw [hs] at hTp; cases hTp
      have e3 : Same H (upd H2 Tp (.tup [.int (i : Nat), .ref q])) := e2.trans (Same.new hTp)
      have hs3 : (upd H2 Tp (.tup [.int (i : Nat), .ref q])) S = some (.lst (spareV n f)) := by rw [upd_ne hSTp]; exact hs
      refine ⟨Tp, _, rfl, SqT.of upd_same, rfl, _, _, rfl, _, _, rfl, ⟨q, _, rfl, SqT.of (e3 _ _ hq0), rfl, _, _, rfl, _, _, rfl, rfl, rfl, ?_⟩⟩
      have hll := allLots_llen mg
      have hlt := allLots_llen mt
      refine ⟨_, rfl, _, rfl, _, rfl, x, g, u, n, ls, lg, lt, rfl, fx.same e3, ok, LT.same hg e3, LT.same hu e3, mg, mt, cg, ctt, fun H4 e4 => ?_⟩
      refine ⟨_, rfl, _, rfl, iteF ?_⟩
      have e14 := e3.trans e4
      refine ⟨_, rfl, x, _, dx, _, _, rfl, e14 _ _ hx, T.c_Family, T.n_Family_copies, f2_a (by decide), _, rfl, n, g, lg, rfl, h1, by omega, LT.same hg e14, allLots_lt mg, by omega, fun z H5 hz e5 hz5 => ?_⟩
      rw [lotOf_self mg] at hz5
      have e15 := e14.trans e5
      refine ⟨z, rfl, ⟨_, SqT.of hz5⟩, for_spare (d := 1) (tip_add 1 rfl) (e5 _ _ (e4 _ _ hs3)) (SqT.of hz5) (allLots_lt mg) rfl (fun v H6 b6 s6 => ?_) _⟩
      have e16 := But.same hSn e15 b6
      refine ⟨_, rfl, x, _, dx, _, _, rfl, e16 _ _ hx, T.c_Family, T.n_Family_copies, f2_a (by decide), _, rfl, n, u, lt, rfl, h1, by omega, LT.same hu e16, allLots_lt mt, by omega, fun z2 H7 hz2 e7 hz7 => ?_⟩
      rw [lotOf_self mt] at hz7
      have e17 := e16.trans e7
      refine ⟨z2, rfl, ⟨_, SqT.of hz7⟩, for_spare (d := -1) (tip_sub (-1) rfl) (e7 _ _ s6) (SqT.of hz7) (allLots_lt mt) rfl (fun v H8 b8 s8 => ?_) _⟩
      refine nx v H8 (But.same hSn e17 b8) ?_
      rw [s8]
      congr 3
      funext k
      omega
    refine ⟨_, rfl, p, [.ref p1, .ref p2], rfl, e1.seq hp, ?_⟩
    refine for_enumL (xs := [.ref p1, .ref p2]) (fun i σ H' => Same H H' ∧ (∃ v3 v4 v5 v6 v7, σ = [some (.ref x), some (.ref p), some (.ref S), v3, v4, v5, v6, v7, none]) ∧ ∃ f : Nat → Int, H' S = some (.lst (spareV n f)) ∧ ∀ c, f c = (if 0 < i then (g1.count c : Int) - (t1.count c : Int) else 0) + (if 1 < i then (g2.count c : Int) - (t2.count c : Int) else 0))
      ⟨e1, ⟨none, none, none, none, none, rfl⟩, fun _ => 0, hS1, fun c => rfl⟩ (fun i σ H' h => h.1.seq hp) ?_ ?_
    · rintro i y σ H2 Tp hy ⟨e2, ⟨v3, v4, v5, v6, v7, rfl⟩, f, hs, hf⟩ hT
      match i, hy with
      | 0, hy =>
        obtain rfl : V.ref p1 = y := by simpa using hy
        refine turn f v3 v6 v7 p1 a b g1 t1 0 H2 Tp _ e2 hs hp1 ha hb tr.g1m tr.t1m tr.g1i tr.t1o hT v4 v5 fun v H' e' s' => ⟨e', ⟨_, _, _, _, _, rfl⟩, _, s', fun c => ?_⟩
        rw [hf c]; simp
      | 1, hy =>
        obtain rfl : V.ref p2 = y := by simpa using hy
        refine turn f v3 v6 v7 p2 c d g2 t2 1 H2 Tp _ e2 hs hp2 hc hd tr.g2m tr.t2m tr.g2i tr.t2o hT v4 v5 fun v H' e' s' => ⟨e', ⟨_, _, _, _, _, rfl⟩, _, s', fun c => ?_⟩
        rw [hf c]; simp; omega
      | i + 2, hy => simp at hy
    · rintro σ H2 ⟨e2, ⟨v3, v4, v5, v6, v7, rfl⟩, f, hs, hf⟩
      refine ⟨_, rfl, p, _, rfl, .inl (e2.seq hp), rfl, _, rfl, ?_⟩
      refine iteFb (by simp) ?_
      have hf0 : ∀ k, k < n → f k = 0 := fun k hk => by
        have h6 := tally_at tr.eq (i := k) (by omega)
        have := hf k
        rw [inN_count (lot_nd tr.g1m), inN_count (lot_nd tr.t1m), inN_count (lot_nd tr.g2m), inN_count (lot_nd tr.t2m)] at this
        simp at this
        omega
      refine ⟨_, rfl, S, rfl, ⟨_, SqL.of hs⟩, ?_⟩
      refine fun D hD => lc_val (zs := List.range n) (I := fun k x => k < n ∧ x = V.int (f k)) (fun _ => true) (fun _ => V.bl false) (walk_lst (SqL.of hs)) ?_ (by unfold spareV; rw [List.length_map, List.length_range]; omega) (fun _ => rfl) (fun z x H1 e1 hz hI Q' q' => q' _ (Same.refl _)) ?_ hD ?_
      · unfold spareV
        refine Pd.imp (fun a b h => ⟨List.mem_range.mp h.2, h.1⟩) (pd_mem (pd_map (v := fun k => V.int (f k)) (List.range n)))
      · rintro k x H3 e3 m ⟨hk, rfl⟩ _ Q' q'
        refine ⟨_, rfl, rfl, ?_⟩
        have := q' H3 (Same.refl _)
        rw [hf0 k hk]
        exact this
      · intro H3 e3 hH3
        rw [List.filter_eq_self.mpr (fun _ _ => rfl)] at hH3
        refine ⟨D, (List.range n).map fun _ => false, rfl, SqL.of (by rw [hH3, List.map_map]; rfl), _, rfl, ?_⟩
        have : ((List.range n).map fun _ => false).any id = false := by simp
        rw [this]
        exact iteF (hq _ (e2.trans e3))
end
end K72

-- K72Seg
set_option Elab.async false
set_option linter.all false
set_option maxRecDepth 100000
set_option maxHeartbeats 2000000
/-! if and for in a generator's body: the steps. -/
namespace K72
open PySem PySem.Spec PyProof.Rows GenW
section
variable {M : Model} {A : Around} {R : GenEnd} {Y : Protocol} {n : Nat} {s₀ : Shared} {c : Code} {fs : List Frame} {s : Shared} {env : Env} {K : Flow → Sem PySem.Fin} {J : Value → Sem PySem.Fin} {gd : Bool → Bool} {lv : List Value → List Value}
theorem seg_If {test : Expr} {body orelse : List Stmt} {pos : Pos}
    (h : wpAny M (A.over c fs) (isTrue test env (eval test env)) (fun b s' => Seg M A R Y n s₀ c ((execs (if b = true then body else orelse) env).wrap K J gd lv) fs s') (fun x s' => Seg M A R Y n s₀ c (J x) fs s') s) :
    Seg M A R Y n s₀ c ((exec (.If test body orelse pos) env).wrap K J gd lv) fs s := by
  show Seg M A R Y n s₀ c (.at pos fun _ => ((isTrue test env (eval test env) >>= fun b => if b = true then execs body env else execs orelse env : Sem Flow)).wrap K J gd lv) fs s
  refine seg_at (seg_bind_wrap (wpAny_mono h (fun b s' hb => ?_) fun _ _ x => x))
  cases b with
  | true => rw [if_pos rfl] at hb ⊢; exact hb
  | false => rw [if_neg Bool.false_ne_true] at hb ⊢; exact hb
/-- what a loop's call does with what comes back -/
abbrev backK (env : Env) (K : Flow → Sem PySem.Fin) (J : Value → Sem PySem.Fin) (gd : Bool → Bool) (lv : List Value → List Value) : Result → Sem PySem.Fin := fun r =>
  ((match r with | .ok f => (.pure f : Sem Flow) | .error e => .raise e).onRaise (L2.cameBack env)).wrap K J gd lv
theorem seg_For {tg iter : Expr} {body : List Stmt} {pos : Pos}
    (h : wpAny M (A.over c fs) (eval iter env) (fun x s₁ => wpAny M (A.over c fs) (pyIter x) (fun it s₂ => ∀ p, Seg M A R Y n s₀ (.forLoop tg it body [] env) (M.den (.forLoop tg it body [] env)) (.ret (backK env K J gd lv) none (gd false) (lv []) c p [] :: fs) s₂)
      (fun x s' => Seg M A R Y n s₀ c (J x) fs s') s₁) (fun x s' => Seg M A R Y n s₀ c (J x) fs s') s)
    (hs : ∀ x, foldedSetIterable iter env x = pure x := by intro _; rfl) :
    Seg M A R Y n s₀ c ((exec (.For tg iter body [] pos) env).wrap K J gd lv) fs s := by
  rw [exec_For]
  show Seg M A R Y n s₀ c (.at pos fun _ => ((eval iter env >>= fun v => foldedSetIterable iter env v >>= fun x => standAt iter.pos >>= fun _ => holding [x] (pyIter x) >>= fun it => runOwn (.forLoop tg it body [] env) env : Sem Flow)).wrap K J gd lv) fs s
  refine seg_at (seg_bind_wrap (wpAny_mono h (fun x s₁ h₁ => ?_) fun _ _ x => x))
  rw [hs x]
  show Seg M A R Y n s₀ c (.at iter.pos fun _ => ((holding [x] (pyIter x) >>= fun it => runOwn (.forLoop tg it body [] env) env : Sem Flow)).wrap K J gd lv) fs s₁
  refine seg_at (seg_bind_wrap (wpAny_holding (wpAny_mono h₁ (fun it s₂ h₂ => ?_) fun _ _ x => x)))
  exact seg_call h₂
/-- a loop's own exception -/
abbrev outJ (env : Env) : Value → Sem PySem.Fin := fun e => (do noteFrame e env; theTreesLotGoes e : Sem Unit).wrap (fun _ => .raise e) .raise id id
abbrev turnK (c : Code) : Flow → Sem PySem.Fin := fun f => match f with
  | .next | .cont => .pure (.again c)
  | .brk => .pure (.done .next)
  | .ret v => .pure (.done (.ret v))
end
section
variable {prog : Program} {w : World} {A : Around} {R : GenEnd} {Y : Protocol} {n : Nat} {s₀ : Shared} {fs : List Frame} {s : Shared} {env : Env}
theorem seg_forLoop {tg : Expr} {it : Value} {body : List Stmt}
    (h : wpAny (model prog w) (A.over (.forLoop tg it body [] env) fs) (pyNext it) (fun r s₁ => match r with
        | none => Seg (model prog w) A R Y n s₀ (.block [] env) (leafOf (.ok .next)) fs s₁
        | some v => wpAny (model prog w) (A.over (.forLoop tg it body [] env) fs) (letOwnedTupleGo tg it v) (fun _ s₂ => wpAny (model prog w) (A.over (.forLoop tg it body [] env) fs) (assign tg env v) (fun _ s₃ =>
            Seg (model prog w) A R Y n s₀ (.forLoop tg it body [] env) ((execs body env).wrap (turnK (.forLoop tg it body [] env)) (outJ env) id id) fs s₃)
            (fun x s' => Seg (model prog w) A R Y n s₀ (.forLoop tg it body [] env) (outJ env x) fs s') s₂) (fun x s' => Seg (model prog w) A R Y n s₀ (.forLoop tg it body [] env) (outJ env x) fs s') s₁)
      (fun x s' => Seg (model prog w) A R Y n s₀ (.forLoop tg it body [] env) (outJ env x) fs s') s) :
    Seg (model prog w) A R Y n s₀ (.forLoop tg it body [] env) ((model prog w).den (.forLoop tg it body [] env)) fs s := by
  show Seg _ A R Y n s₀ _ ((forTurn tg it body [] env).onRaise (fun x => do noteFrame x env; theTreesLotGoes x)) fs s
  rw [Sem.onRaise_eq_wrap]
  show Seg _ A R Y n s₀ _ (.at tg.pos fun _ => (((pyNext it).onRaise (fun _ => standAt { tg.pos with line := 0 }) >>= fun r => match r with
    | none => again (.block [] env)
    | some v => letOwnedTupleGo tg it v >>= fun _ => assign tg env v >>= fun _ => execs body env >>= fun f => match f with
      | .next | .cont => again (.forLoop tg it body [] env)
      | .brk => pure (.done .next)
      | .ret v => pure (.done (.ret v)) : Sem PySem.Fin)).wrap _ _ id id) fs s
  refine seg_at (seg_bind_wrap (wpAny_onRaise (wpAny_mono h (fun r s₁ h₁ => ?_) fun x s' hx => wpAny_standAt ?_)))
  · cases r with
    | none =>
      show Seg _ A R Y n s₀ _ (.pure (.again (.block [] env))) fs s₁
      exact seg_again rfl h₁
    | some v =>
      refine seg_bind_wrap (wpAny_mono h₁ (fun _ s₂ h₂ => seg_bind_wrap (wpAny_mono h₂ (fun _ s₃ h₃ => ?_) fun x s' hx => ?_)) fun x s' hx => ?_)
      · rw [Sem.bind_eq_wrap', Sem.wrap_wrap]
        rw [Sem.wrap_congr (execs body env) _ _ (K' := turnK (.forLoop tg it body [] env)) (H' := outJ env) (fun f => by cases f <;> rfl) (fun e => by first | exact Sem.bind_eq_wrap _ _ | (show (do noteFrame e env; theTreesLotGoes e : Sem Unit).bind (fun _ => .raise e) = _; rw [Sem.bind_eq_wrap]))]
        exact h₃
      · first | exact hx | (show Seg _ A R Y n s₀ _ ((do noteFrame x env; theTreesLotGoes x : Sem Unit).bind fun _ => .raise x) fs s'; rw [Sem.bind_eq_wrap]; exact hx)
      · first | exact hx | (show Seg _ A R Y n s₀ _ ((do noteFrame x env; theTreesLotGoes x : Sem Unit).bind fun _ => .raise x) fs s'; rw [Sem.bind_eq_wrap]; exact hx)
  · first | exact hx | (show Seg _ A R Y n s₀ _ ((do noteFrame x env; theTreesLotGoes x : Sem Unit).bind fun _ => .raise x) fs s'; rw [Sem.bind_eq_wrap]; exact hx)
end
end K72

-- K72GenFor
set_option Elab.async false
set_option linter.all false
set_option maxRecDepth 100000
set_option maxHeartbeats 2000000
/-! if and for in a generator's body, over GenBody. -/
namespace K72
open PySem PySem.Spec PyProof.Rows L2 GenW
section
variable {X : Cx}
def tGIf (c : TT) (t u : TGn) : TGn := fun D ys σ H => c σ H fun b H1 => if b = true then t D ys σ H1 else u D ys σ H1
theorem gs_if {test : Expr} {body orelse : List Stmt} {pos : Pos} {tc : TT} {t u : TGn} (hc : PT X test tc) (ha : GSs X body t) (hb : GSs X orelse u) : GS X (.If test body orelse pos) (tGIf tc t u) := by
  refine ⟨fun A S ip R n ys s₀ c fs K J gd lv s σ H D g hn k hI ht => ?_⟩
  obtain ⟨acc, cc, r, I⟩ := hI
  refine seg_If ?_
  rw [g.over]
  refine wpAny_mono (hc.run _ s σ H _ I ht) (fun b s' hb' => ?_) fun x s' hx => k.exc n s₀ x s' hx
  obtain ⟨H2, I2, q2⟩ := hb'
  cases b with
  | true => exact ha.run A S ip R n ys s₀ c fs K J gd lv s' σ H2 D g hn k ⟨acc, cc, r, I2⟩ q2
  | false => exact hb.run A S ip R n ys s₀ c fs K J gd lv s' σ H2 D g hn k ⟨acc, cc, r, I2⟩ q2
def tGFor (wi : TI) (g : TG) (tb : TGn) : TGn := fun D ys σ H => wi σ H fun J H1 => ∃ W : Nat → Nat → List V → L2.St → Hp → Prop, (∃ m, W 0 m ys σ H1) ∧ ∀ i m ys σ H, W i m ys σ H →
  (J.stop i H ∧ D.nx ys σ H) ∨ (J.go i H ∧ ∃ N : List V → L2.St → Hp → Prop, (∀ ys' σ' H', N ys' σ' H' → ∃ m', m' < m ∧ W (i + 1) m' ys' σ' H') ∧ ∀ x H', J.yld i H x H' → g x σ H' fun σ2 H2 => tb { D with nx := N, ct := N, bk := D.nx } ys σ2 H2)
theorem gs_for {tg iter : Expr} {body : List Stmt} {pos : Pos} {wi : TI} {g : TG} {tb : TGn} (hp : PassesOwn (model X.prog X.w) X.A X.env X.xe) (calm : X.calm = true) (hi : PI X tg iter wi) (hg : PG X tg g) (hb : GSs X body tb) (hs : ∀ x, foldedSetIterable iter X.env x = pure x := by intro _; rfl) :
    GS X (.For tg iter body [] pos) (tGFor wi g tb) := by
  refine ⟨fun A S ip R n ys s₀ c fs K J gd lv s σ H D G hn k hI ht => ?_⟩
  obtain ⟨acc, cc, r, I⟩ := hI
  refine seg_For ?_ hs
  rw [G.over]
  refine wpAny_mono (hi.run _ s σ H _ I ht) (fun v s1 h1 => ?_) fun x s' hx => k.exc n s₀ x s' hx
  refine wpAny_mono h1 (fun itv s2 h2 => ?_) fun x s' hx => k.exc n s₀ x s' hx
  obtain ⟨it, fp, tn, Jt, H2, e, I2, T, st2, f2, W, ⟨m0, w0⟩, turn⟩ := h2
  subst e
  intro p
  have gl := gc_loop (k := backK X.env K J gd lv) (c' := .forLoop tg (.ref it) body [] X.env) (l := lv []) (kp := []) (p := p) G rfl rfl
  have fpS : ∀ b ∈ fp, b ≠ S := fun b hb => Ne.symm ((f2 b hb).2.2.2.2.2 (S, lstObj acc cc) (List.mem_append_right _ List.mem_cons_self))
  have stat : ∀ {acc' : Array Value} {c' : Nat} {H' : Hp}, (∀ b ∈ fp, H' b = none) → ∀ b ∈ fp, FpOk X ((S, lstObj acc' c') :: ip) H' b := fun hn b hb => by
    obtain ⟨_, a2, a3, a4, a5, a6⟩ := f2 b hb
    refine ⟨hn b hb, a2, a3, a4, a5, fun q hq => ?_⟩
    rcases List.mem_append.mp hq with hq | hq
    · exact a6 q (List.mem_append_left _ hq)
    · rcases List.mem_cons.mp hq with hq | hq
      · rw [hq]; exact Ne.symm (fpS b hb)
      · exact a6 q (List.mem_append_right _ (List.mem_cons_of_mem _ hq))
  have loop : ∀ (m n i : Nat) (ys : List V) (s₀ s : Shared) (σ : L2.St) (H : Hp), n + ys.length = sizeLine → W i m ys σ H → GI X S ip ys σ H s → tn i s.heap → (∀ b ∈ fp, H b = none) →
      Seg (model X.prog X.w) A R (GY X S) n s₀ (.forLoop tg (.ref it) body [] X.env) ((model X.prog X.w).den (.forLoop tg (.ref it) body [] X.env)) (.ret (backK X.env K J gd lv) none (gd false) (lv []) c p [] :: fs) s := by
    intro m
    induction m using Nat.strongRecOn with
    | ind m ih =>
      intro n i ys s₀ s σ H hn w hI stn frn
      have ee : ∀ (n : Nat) (s₀ : Shared) (x : Value) (s' : Shared), X.xe x s' → Seg (model X.prog X.w) A R (GY X S) n s₀ (.forLoop tg (.ref it) body [] X.env) (outJ X.env x) (.ret (backK X.env K J gd lv) none (gd false) (lv []) c p [] :: fs) s' := fun n s₀ x s' hx => by
        refine seg_wrap ?_
        rw [gl.over]
        refine wpAny_bind (wpAny_mono (hp x s' hx) (fun _ s'' hcb => wpAny_theTreesLotGoes ?_) fun y s'' hcb => ?_)
        · exact seg_leaf (.error x) (seg_cameBack G k hcb)
        · exact seg_leaf (.error y) (seg_cameBack G k hcb)
      refine seg_forLoop ?_
      rw [gl.over]
      obtain ⟨acc, cc, r, I⟩ := hI
      rcases turn i m ys σ H w with ⟨stop, qn⟩ | ⟨go, N, hN, step⟩
      · refine wpAny_mono (T.done X rfl rfl rfl calm i _ s σ H X.xe I (stat frn) stn stop) (fun r' s4 h4 => ?_) fun x s' hx => ee n s₀ x s' hx
        obtain ⟨rfl, I4⟩ := h4
        exact seg_leaf (.ok .next) (k.ok n ys s₀ s4 .next hn ⟨σ, H, ⟨acc, cc, r, I4⟩, qn⟩)
      · refine wpAny_mono (T.item X rfl rfl rfl calm i _ s σ H X.xe I (stat frn) stn go) (fun r' s4 h4 => ?_) fun x s' hx => ee n s₀ x s' hx
        obtain ⟨u, rfl, h4⟩ := h4
        refine wpAny_mono h4 (fun _ s5 h5 => ?_) fun x s' hx => ee n s₀ x s' hx
        obtain ⟨x, H5, I5, r5, y5, st5, fr5⟩ := h5
        have I5' := I5.pinned (stat fr5) (T.obj _ _ st5)
        refine wpAny_mono (hg.run _ s5 σ H5 x u _ I5' r5 (step x H5 y5)) (fun _ s6 h6 => ?_) fun x s' hx => ee n s₀ x s' hx
        obtain ⟨σ6, H6, I6, q6⟩ := h6
        have ip2 : ∀ q ∈ ip ++ pinsAt fp s5.heap, q.1 ≠ S := fun q hq => by
          rcases List.mem_append.mp hq with hq | hq
          · exact gl.ip q hq
          · exact fpS q.1 (of_pinsAt hq).1
        have gl2 : GC X S (ip ++ pinsAt fp s5.heap) A (.forLoop tg (.ref it) body [] X.env) (.ret (backK X.env K J gd lv) none (gd false) (lv []) c p [] :: fs) id := ⟨gl.pn, ip2, gl.apart, gl.over, gl.split, gl.guard, gl.gd⟩
        refine hb.run A S (ip ++ pinsAt fp s5.heap) R n ys s₀ _ _ _ _ id id s6 σ6 H6 { D with nx := N, ct := N, bk := D.nx } gl2 hn ⟨fun n' ys' s₀' s7 f hn' hs7 => ?_, fun n' s₀' x s7 hx => ee n' s₀' x s7 hx⟩ ⟨acc, cc, r, I6⟩ q6
        have un : ∀ {σ7 : L2.St} {H7 : Hp}, GI X S (ip ++ pinsAt fp s5.heap) ys' σ7 H7 s7 → GI X S ip ys' σ7 H7 s7 ∧ tn (i + 1) s7.heap ∧ ∀ b ∈ fp, H7 b = none := fun {σ7 H7} h7 => by
          obtain ⟨acc', cc', r', I7⟩ := h7
          have I7' : Inv X (((S, lstObj acc' cc') :: ip) ++ pinsAt fp s5.heap) σ7 H7 s7 := I7
          have at7 : ∀ b ∈ fp, ∀ o, s5.heap.get? b = some o → s7.heap.get? b = some o ∧ H7 b = none := fun b hb o e =>
            let z := I7'.pin (b, o) (List.mem_append_right _ (List.mem_append_right _ (mem_pinsAt hb e)))
            ⟨z.1, z.2.1⟩
          refine ⟨⟨acc', cc', r', I7'.unpinned⟩, T.keep _ _ _ st5 fun b hb o e => (at7 b hb o e).1, fun b hb => ?_⟩
          obtain ⟨o, e, _⟩ := T.obj _ _ st5 b hb
          exact (at7 b hb o e).2
        cases f with
        | next =>
          obtain ⟨σ7, H7, I7, n7⟩ := hs7
          obtain ⟨m', hm, w7⟩ := hN ys' σ7 H7 n7
          obtain ⟨a1, a2, a3⟩ := un I7
          exact seg_again rfl (ih m' hm n' (i + 1) ys' s₀' s7 σ7 H7 hn' w7 a1 a2 a3)
        | cont =>
          obtain ⟨σ7, H7, I7, n7⟩ := hs7
          obtain ⟨m', hm, w7⟩ := hN ys' σ7 H7 n7
          obtain ⟨a1, a2, a3⟩ := un I7
          exact seg_again rfl (ih m' hm n' (i + 1) ys' s₀' s7 σ7 H7 hn' w7 a1 a2 a3)
        | brk =>
          obtain ⟨σ7, H7, I7, n7⟩ := hs7
          exact seg_leaf (.ok .next) (k.ok n' ys' s₀' s7 .next hn' ⟨σ7, H7, (un I7).1, n7⟩)
        | ret v =>
          obtain ⟨x7, σ7, H7, I7, r7, n7⟩ := hs7
          exact seg_leaf (.ok (.ret v)) (k.ok n' ys' s₀' s7 (.ret v) hn' ⟨x7, σ7, H7, (un I7).1, r7, n7⟩)
  exact loop m0 n 0 ys s₀ s2 σ H2 hn w0 ⟨acc, cc, r, I2⟩ st2 fun b hb => (f2 b hb).1
end
end K72

-- K72Every
set_option Elab.async false
set_option linter.all false
set_option maxRecDepth 100000
set_option maxHeartbeats 4000000
/-! family.py: every. -/
namespace K72
open PySem PySem.Spec PyProof.Rows L2
def everyN (n : Nat) (ls : List (List Nat)) : List (List Nat) := (allLots n).filter fun l => containsN ls l
section
variable {P : Program} {w : World} {K : PySem.W.Frag} {mg : Str → Option Value} {base : Heap}
def spEvery (K : PySem.W.Frag) : SpG := fun vs H cont _ => ∃ (x : Addr) (n : Nat) (ls : List (List Nat)), vs = [.ref x] ∧ FamAt K H x n ls ∧ OkL n ls ∧ ∀ as H', Same H H' → LLs K H' as (everyN n ls) → cont (as.map V.ref) H'
abbrev nm_every : List Str := ["self", "lot"]
theorem sc_every : GScope nm_every ["self"] (defScope s_Family_every) := ⟨rfl, rfl, rfl, by decide +kernel, rfl, by decide +kernel, by decide +kernel⟩
theorem g_every (T : Ft K mg) : ∃ fd, GFn P w K mg base 6 (He.ma K (He.ga K "Family") "every") fd ["self"] (spEvery K) ∧ Binds K fd ["self"] [] := by
  obtain ⟨fd, F⟩ := T.f_Family_every
  have hb : Binds K fd ["self"] [] := F.bindsN fun _ _ _ _ _ _ us hl => match us, hl with | [_], _ => rfl
  obtain ⟨oc, od, dV, kV, doc, pm, an, cdv, ct, osl, rfl, lk, hcd, hdV, _⟩ := F.ex
  refine ⟨_, gfn_of (k := 5) (N := nm_every) (ps := ["self"]) (sp := spEvery K) lk hcd sc_every (fun vs H Q E h => by obtain ⟨_, _, _, rfl, _⟩ := h; rfl) fun A outer s H vs Q E pn hr h => ?_, hb⟩
  obtain ⟨x, n, ls, rfl, fx, ok, q⟩ := h
  obtain ⟨dx, t, as, hx, _, _⟩ := id fx
  have h1 := ok.n1
  have h5 := ok.n5
  refine ⟨_, gss_cons (gs_for owns_gcx rfl (pi_lstK K (pe_cr (r_all_lots T) hr (by decide) rfl (pa_cons (pe_fldK K (pv 0)) pa_nil))) (pg_name (i := 1) sc_every.nd rfl (.inl rfl))
    (gss_cons (gs_if (pt_val (pe_mr (m_contains T) hr (by decide) (pv 0) (pa_cons (pv 1) pa_nil))) (gss_cons (gs_yield (pv 1)) gss_nil) gss_nil) gss_nil)) gss_nil, ?_⟩
  refine ⟨_, rfl, x, _, dx, _, _, rfl, hx, T.c_Family, T.n_Family_copies, f2_a (by decide), n, rfl, h1, by omega, fun p cs H1 hp e1 hp1 hc => ?_⟩
  refine ⟨p, rfl, ⟨_, SqL.of hp1⟩, ?_⟩
  have hcl : cs.length = (allLots n).length := Pd.len hc
  refine ⟨fun i m ys σ H' => m = cs.length - i ∧ i ≤ cs.length ∧ Same H1 H' ∧ (∃ v, σ = [some (.ref x), v]) ∧ ys.length ≤ i ∧ ∃ as, ys = as.map V.ref ∧ LLs K H' as (((allLots n).take i).filter fun l => containsN ls l),
    ⟨_, rfl, Nat.zero_le _, Same.refl _, ⟨none, rfl⟩, Nat.zero_le _, [], rfl, by simp; exact .nil⟩, ?_⟩
  rintro i m ys σ H2 ⟨rfl, hi, e2, ⟨v, rfl⟩, hyl, bs, rfl, hb2⟩
  by_cases hlt : i < cs.length
  · obtain ⟨c, hci⟩ : ∃ c, cs[i]? = some c := ⟨cs[i], List.getElem?_eq_getElem hlt⟩
    obtain ⟨l, hli, hlc⟩ := Pd.at (pd_swap hc) hci
    have hlm : l ∈ allLots n := List.mem_of_getElem? hli
    have hxs : (cs.map V.ref)[i]? = some (.ref c) := by rw [List.getElem?_map, hci]; rfl
    have h32 : (allLots n).length ≤ 256 := allLots_256 (by omega)
    have W := walk_lst (K := K) (SqL.of (K := K) (e2 _ _ hp1))
    refine .inr ⟨W.go i _ H2 (Same.refl _) hxs, fun ys' σ' H' => i + 1 ≤ cs.length ∧ Same H1 H' ∧ (∃ v, σ' = [some (.ref x), v]) ∧ ys'.length ≤ i + 1 ∧ ∃ as, ys' = as.map V.ref ∧ LLs K H' as (((allLots n).take (i + 1)).filter fun l => containsN ls l), fun ys' σ' H' h => ⟨cs.length - (i + 1), by omega, rfl, h⟩, fun y H3 hy => ?_⟩
    obtain ⟨rfl, rfl⟩ := W.yld i _ _ _ _ (Same.refl _) hxs hy
    have e12 := e1.trans e2
    refine ⟨_, rfl, x, dx, _, rfl, e12 _ _ hx, f2_no (by decide) (by decide), _, rfl, x, c, n, ls, l, rfl, fx.same e12, ok, LT.same hlc e2, fun H4 e4 => ⟨_, rfl, ?_⟩⟩
    have et := filter_take_succ (f := fun l => containsN ls l) hli
    by_cases hcn : containsN ls l = true
    · refine iteTb hcn ?_
      rw [if_pos hcn] at et
      refine ⟨by rw [List.length_map] at hyl ⊢; exact line_lt (by omega), _, rfl, hlt, e2.trans e4, ⟨_, rfl⟩, by rw [List.length_append]; simp at hyl ⊢; omega, bs ++ [c], by rw [List.map_append]; rfl, ?_⟩
      rw [et]
      exact Pd.snoc (LLs.same hb2 e4) (LT.same hlc (e2.trans e4))
    · refine iteFb (by simpa using hcn) ?_
      rw [if_neg hcn, List.append_nil] at et
      refine ⟨hlt, e2.trans e4, ⟨_, rfl⟩, by omega, bs, rfl, ?_⟩
      rw [et]
      exact LLs.same hb2 e4
  · have e : i = cs.length := by omega
    subst e
    rw [hcl, List.take_length] at hb2
    exact .inl ⟨(walk_lst (K := K) (SqL.of (K := K) (e2 _ _ hp1))).stop H2 (Same.refl _) |> fun h => by simpa using h, q bs H2 (e1.trans e2) hb2⟩
theorem cx_no {P : Program} {w : World} {outer : List Env} {s s' : Shared} {H : Hp} {e : Value} (h : L2.CX P w outer H s E0 e s') : False := by
  obtain ⟨a, B, H', cls, d, _, _, _, _, _, _, _, hW⟩ := h
  exact hW
/-- list(x.every()) -/
theorem pe_every {X : Cx} {j : Nat} {o : Expr} {ta : TE} {nm : Str} {p pos pos' apos : Pos} {pl : Sem Bool} (T : Ft X.K X.mg) (hr : Room j X.A) (hk : 9 ≤ j) (he : PE X o ta) (hg : Gl X nm) (hmg : X.mg nm = none) (hv : bootBuiltins nm = some (.type "list")) (hnm : nm ≠ "__name__" := by decide) (hdb : (nm == ("__debug__" : Str)) = false := by decide)
    (ht : eval (.Call (.Attribute o "every" apos) [] [] pos') X.env = (do
      let ov ← eval o X.env
      standAt apos.atName
      let (f, first) ← holding [ov] (getMethod ov "every" pl)
      callWith pos' f first (backTo pos' (starEach [] X.env)) (backToKw pos' (keywordEach [] X.env))) := by rfl)
    (hs : starEach [.Call (.Attribute o "every" apos) [] [] pos'] X.env = (false, eval (.Call (.Attribute o "every" apos) [] [] pos') X.env) :: starEach [] X.env := by rfl) :
    PE X (.Call (.Name nm p) [.Call (.Attribute o "every" apos) [] [] pos'] [] pos) (tListG (tMethG (He.ga X.K "Family") "every" (spEvery X.K) [] E0 ta tNil)) := by
  obtain ⟨fd, F, hb⟩ := g_every (P := X.prog) (w := X.w) (base := X.base) T
  exact pe_listG (E := E0) (k := 6) (pgen_meth0 (pl := pl) (ds := []) he T.c_Family T.t_Family_every F (hr.mono (by omega)) hb .nil ht) (fun pins σ H s e s' I h => (cx_no h).elim) (fun cls d H h => h.elim) (hr.mono (by omega)) hg hmg hv hnm hdb hs
end
end K72

-- K72GenFrame
set_option Elab.async false
set_option linter.all false
/-! A run in a state whose sleeping generators are stuck can't wake them; so it is a run in the true state, and leaves them as they are. -/
namespace K72
open PySem
open Sem (wp)
open PyProof.Rows

/-- the same sleeper, but it can't be woken -/
def stuck : GenState → GenState
  | .suspended _ l c p fs cl => .suspended (fun _ => .unsupported "") l c p fs cl
  | x => x
def asleep : GenState → Bool
  | .suspended .. => true
  | _ => false
theorem stuck_bare (x : GenState) : (stuck x).bare = x.bare := by cases x <;> rfl
theorem stuck_seen (x : GenState) : (stuck x).seen = x.seen := by cases x <;> rfl

def hid (G : Nat → Bool) (a : Array GenState) : Array GenState := a.mapIdx fun i x => if G i = true then stuck x else x
def hide (G : Nat → Bool) (s : Shared) : Shared := { s with gens := hid G s.gens }
theorem hid_size (G : Nat → Bool) (a : Array GenState) : (hid G a).size = a.size := by simp [hid]
theorem hid_get (G : Nat → Bool) (a : Array GenState) (i : Nat) : (hid G a)[i]? = (a[i]?).map fun x => if G i = true then stuck x else x := by
  simp [hid, Array.getElem?_mapIdx]
/-- all of G are sleepers of the table -/
def Sl (G : Nat → Bool) (a : Array GenState) : Prop := ∀ i, G i = true → ∃ x, a[i]? = some x ∧ asleep x = true
theorem hid_push {G : Nat → Bool} {a : Array GenState} {x : GenState} (h : Sl G a) : (hid G a).push x = hid G (a.push x) := by
  apply Array.ext_getElem?
  intro i
  rw [hid_get, Array.getElem?_push, Array.getElem?_push, hid_size, hid_get]
  by_cases hi : i = a.size
  · subst hi
    have hG : G a.size = false := by
      cases q : G a.size with
      | false => rfl
      | true => obtain ⟨x, hx, _⟩ := h _ q; simp at hx
    simp [hG]
  · simp [hi]
theorem hid_set {G : Nat → Bool} {a : Array GenState} {g : Nat} {x : GenState} (h : G g = false) : (hid G a).setIfInBounds g x = hid G (a.setIfInBounds g x) := by
  apply Array.ext_getElem?
  intro i
  rw [hid_get, Array.getElem?_setIfInBounds, Array.getElem?_setIfInBounds, hid_size, hid_get]
  by_cases hi : g = i
  · subst hi
    by_cases hb : g < a.size <;> simp [hb, h]
  · simp [hi]
theorem Sl.push {G : Nat → Bool} {a : Array GenState} {x : GenState} (h : Sl G a) : Sl G (a.push x) := fun i hi => by
  obtain ⟨y, hy, hs⟩ := h i hi
  refine ⟨y, ?_, hs⟩
  have hlt := (Array.getElem?_eq_some_iff.mp hy).1
  rw [Array.getElem?_push]
  simp [Nat.ne_of_lt hlt, hy]
theorem Sl.set {G : Nat → Bool} {a : Array GenState} {g : Nat} {x : GenState} (h : Sl G a) (hg : G g = false) : Sl G (a.setIfInBounds g x) := fun i hi => by
  obtain ⟨y, hy, hs⟩ := h i hi
  refine ⟨y, ?_, hs⟩
  have hne : g ≠ i := fun e => by subst e; rw [hg] at hi; cases hi
  rw [Array.getElem?_setIfInBounds_ne hne]; exact hy
/-- a's sleepers stand in b -/
def Kp (G : Nat → Bool) (a b : Array GenState) : Prop := ∀ i, G i = true → b[i]? = a[i]?
theorem Kp.rfl' {G : Nat → Bool} {a : Array GenState} : Kp G a a := fun _ _ => rfl
theorem Kp.trans {G : Nat → Bool} {a b c : Array GenState} (h : Kp G a b) (k : Kp G b c) : Kp G a c := fun i hi => (k i hi).trans (h i hi)
theorem Kp.push {G : Nat → Bool} {a : Array GenState} {x : GenState} (h : Sl G a) : Kp G a (a.push x) := fun i hi => by
  obtain ⟨y, hy, _⟩ := h i hi
  have hlt := (Array.getElem?_eq_some_iff.mp hy).1
  rw [Array.getElem?_push]
  simp [Nat.ne_of_lt hlt]
theorem Kp.set {G : Nat → Bool} {a : Array GenState} {g : Nat} {x : GenState} (hg : G g = false) : Kp G a (a.setIfInBounds g x) := fun i hi => by
  have hne : g ≠ i := fun e => by subst e; rw [hg] at hi; cases hi
  rw [Array.getElem?_setIfInBounds_ne hne]
theorem Sl.kp {G : Nat → Bool} {a b : Array GenState} (h : Sl G a) (k : Kp G a b) : Sl G b := fun i hi => by
  obtain ⟨y, hy, hs⟩ := h i hi
  exact ⟨y, (k i hi).trans hy, hs⟩
theorem not_of_awake {G : Nat → Bool} {s : Shared} {g : Nat} {x : GenState} (h : Sl G s.gens) (e : (hide G s).gens[g]? = some x) (hx : asleep x = false) : G g = false := by
  cases q : G g with
  | false => rfl
  | true =>
    obtain ⟨y, hy, hs⟩ := h g q
    have e2 : (hid G s.gens)[g]? = some x := e
    rw [hid_get, hy, q] at e2
    simp at e2
    subst e2
    cases y <;> simp_all [asleep, stuck]
theorem get_of_not {G : Nat → Bool} {s : Shared} {g : Nat} {x : GenState} (hg : G g = false) (e : (hide G s).gens[g]? = some x) : s.gens[g]? = some x := by
  have e2 : (hid G s.gens)[g]? = some x := e
  rw [hid_get, hg] at e2
  cases q : s.gens[g]? with
  | none => rw [q] at e2; cases e2
  | some y => rw [q] at e2; simpa using e2
theorem hide_set {G : Nat → Bool} {s : Shared} {g : Nat} {x : GenState} (hg : G g = false) : (hide G s).setGen g x = hide G (s.setGen g x) := by
  show ({ s with gens := (hid G s.gens).setIfInBounds g x } : Shared) = { s with gens := hid G (s.gens.setIfInBounds g x) }
  rw [hid_set hg]

theorem runs_no_unsupported {M : Model} {Γ : Ctx} {p : Pos} {t : Sem PySem.Fin} {fs : List Frame} {s : Shared} {e : End} {s' : Shared} (h : Runs M Γ p t fs s e s') : ∀ u, t ≠ .unsupported u := by
  induction h with
  | segRet _ _ ih _ => exact ih
  | segGen _ _ ih _ => exact ih
  | segSuspOut _ _ ih => exact ih
  | segSuspGen _ _ _ _ ih _ => exact ih
  | _ => intro u ht; cases ht

theorem split_append : ∀ {a b : List Frame}, splitAtGen a = none → splitAtGen b = none → splitAtGen (a ++ b) = none
  | [], _, _, h => h
  | .gen g k l c p :: r, _, h, _ => by simp [splitAtGen] at h
  | .ret k h' g l c p kp :: r, b, h, hb => by
    have h1 : splitAtGen r = none := by
      cases q : splitAtGen r with
      | none => rfl
      | some x => simp [splitAtGen, q] at h
    show ((splitAtGen (r ++ b)).map _) = none
    rw [split_append h1 hb]; rfl
theorem split_tail {k h' g l c p kp} {r : List Frame} (h : splitAtGen (.ret k h' g l c p kp :: r) = none) : splitAtGen r = none := by
  cases q : splitAtGen r with
  | none => rfl
  | some x => simp [splitAtGen, q] at h
/-- the table's other sleepers stand over no generator -/
def TOk (G : Nat → Bool) (a : Array GenState) : Prop := ∀ (i : Nat) k l c p fs cl, a[i]? = some (.suspended k l c p fs cl) → G i = false → splitAtGen fs = none
def EOk : End → Prop
  | .susp _ _ _ _ _ _ fs => splitAtGen fs = none
  | .ret _ => True
theorem TOk.push {G : Nat → Bool} {a : Array GenState} {c : Code} (h : TOk G a) : TOk G (a.push (.fresh c)) := fun i k l c' p fs cl e hi => by
  rw [Array.getElem?_push] at e
  split at e
  · cases e
  · exact h i k l c' p fs cl e hi
theorem TOk.set {G : Nat → Bool} {a : Array GenState} {g : Nat} {x : GenState} (h : TOk G a) (hx : ∀ k l c p fs cl, x = .suspended k l c p fs cl → splitAtGen fs = none) : TOk G (a.setIfInBounds g x) := fun i k l c p fs cl e hi => by
  rw [Array.getElem?_setIfInBounds] at e
  split at e
  · split at e
    · exact hx k l c p fs cl (Option.some.inj e)
    · cases e
  · exact h i k l c p fs cl e hi
theorem EOk.gen {e : End} (h : EOk e) : ∀ k l c p fs cl, e.genState = .suspended k l c p fs cl → splitAtGen fs = none := fun k l c p fs cl q => by
  cases e with
  | ret r => cases q
  | susp v g l' k' c' p' fs' =>
    injection q with _ _ _ _ q5 _
    subst q5
    exact h
/-- THE FRAME RULE for sleeping generators, of runs -/
theorem runs_unhide {M : Model} {G : Nat → Bool} {Γ : Ctx} {p : Pos} {t : Sem PySem.Fin} {fs : List Frame} {s0 : Shared} {e : End} {s0' : Shared} (h : Runs M Γ p t fs s0 e s0') :
    splitAtGen fs = none → ∀ s, s0 = hide G s → Sl G s.gens → TOk G s.gens → ∃ s', Runs M Γ p t fs s e s' ∧ s0' = hide G s' ∧ Kp G s.gens s'.gens ∧ TOk G s'.gens ∧ EOk e := by
  induction h with
  | done => intro hf s hs hG hT; exact ⟨s, .done, hs, .rfl', hT, trivial⟩
  | raise => intro hf s hs hG hT; exact ⟨s, .raise, hs, .rfl', hT, trivial⟩
  | again hq _ ih => intro hf s hs hG hT; obtain ⟨s', r, a⟩ := ih hf s hs hG hT; exact ⟨s', .again hq r, a⟩
  | rule _ ih => intro hf s hs hG hT; obtain ⟨s', r, a⟩ := ih hf s hs hG hT; exact ⟨s', .rule r, a⟩
  | «at» _ ih => intro hf s hs hG hT; obtain ⟨s', r, a⟩ := ih hf s hs hG hT; exact ⟨s', .at r, a⟩
  | load ho _ ih => intro hf s hs hG hT; obtain ⟨s', r, a⟩ := ih hf s hs hG hT; subst hs; exact ⟨s', .load ho r, a⟩
  | update ha _ ih => intro hf s hs hG hT; subst hs; obtain ⟨s', r, a⟩ := ih hf { s with heap := s.heap.update _ _ } rfl hG hT; exact ⟨s', .update ha r, a⟩
  | loadIfAlive _ ih => intro hf s hs hG hT; obtain ⟨s', r, a⟩ := ih hf s hs hG hT; subst hs; exact ⟨s', .loadIfAlive r, a⟩
  | point _ ih => intro hf s hs hG hT; obtain ⟨s', r, a⟩ := ih hf s hs hG hT; exact ⟨s', .point r, a⟩
  | alloc _ ih => intro hf s hs hG hT; subst hs; obtain ⟨s', r, a⟩ := ih hf { s with heap := s.heap.push _ } rfl hG hT; exact ⟨s', .alloc r, a⟩
  | fresh _ ih => intro hf s hs hG hT; subst hs; obtain ⟨s', r, a⟩ := ih hf { s with toks := s.toks + 1 } rfl hG hT; exact ⟨s', .fresh r, a⟩
  | ask _ ih => intro hf s hs hG hT; obtain ⟨s', r, a⟩ := ih hf s hs hG hT; exact ⟨s', .ask r, a⟩
  | choose hn _ ih => intro hf s hs hG hT; subst hs; obtain ⟨s', r, a⟩ := ih hf { s with drawn := s.drawn.bump _ } rfl hG hT; exact ⟨s', .choose hn r, a⟩
  | os _ ih => intro hf s hs hG hT; subst hs; obtain ⟨s', r, a⟩ := ih hf { s with os := (Os.step s.os _).1 } rfl hG hT; exact ⟨s', .os r, a⟩
  | handled _ ih => intro hf s hs hG hT; obtain ⟨s', r, a⟩ := ih hf s hs hG hT; exact ⟨s', .handled r, a⟩
  | genState hg _ ih =>
    intro hf s hs hG hT
    subst hs
    obtain ⟨s', r, a⟩ := ih hf s rfl hG hT
    have e2 := hg
    unfold hide at e2
    dsimp only at e2
    rw [hid_get] at e2
    obtain ⟨y, hq, e3⟩ := Option.map_eq_some_iff.mp e2
    · rw [← e3] at r
      have r2 := r
      split at r2
      · rw [stuck_seen] at r2; exact ⟨s', .genState hq r2, a⟩
      · exact ⟨s', .genState hq r2, a⟩
  | stack _ ih => intro hf s hs hG hT; obtain ⟨s', r, a⟩ := ih hf s hs hG hT; exact ⟨s', .stack r, a⟩
  | thread _ ih => intro hf s hs hG hT; obtain ⟨s', r, a⟩ := ih hf s hs hG hT; exact ⟨s', .thread r, a⟩
  | newGen _ ih =>
    intro hf s hs hG hT
    subst hs
    obtain ⟨s', r, a, b, c⟩ := ih hf { s with gens := s.gens.push _ } (by show ({ s with gens := (hid G s.gens).push _ } : Shared) = hide G { s with gens := s.gens.push _ }; rw [hid_push hG]; rfl) hG.push hT.push
    refine ⟨s', .newGen ?_, a, (Kp.push hG).trans b, c⟩
    have e1 : (hide G s).gens.size = s.gens.size := hid_size G s.gens
    rw [e1] at r
    exact r
  | call _ _ ih1 ih2 =>
    intro hf s hs hG hT
    obtain ⟨s1, r1, a1, b1, t1, _⟩ := ih1 rfl s hs hG hT
    obtain ⟨s2, r2, a2, b2, c2⟩ := ih2 hf s1 a1 (hG.kp b1) t1
    exact ⟨s2, .call r1 r2, a2, b1.trans b2, c2⟩
  | callSusp _ ih => intro hf s hs hG hT; obtain ⟨s', r, a, b, c, d⟩ := ih rfl s hs hG hT; exact ⟨s', .callSusp r, a, b, c, split_append d rfl⟩
  | yield => intro hf s hs hG hT; exact ⟨s, .yield, hs, .rfl', hT, rfl⟩
  | resumeFresh hg _ hq _ ih1 ih2 =>
    intro hf s hs hG hT
    subst hs
    have hn := not_of_awake hG hg rfl
    obtain ⟨s1, r1, a1, b1, t1, d1⟩ := ih1 rfl (s.setGen _ .running) (hide_set hn) (hG.set hn) (hT.set fun _ _ _ _ _ _ q => by cases q)
    have hG1 : Sl G s1.gens := (hG.set hn).kp b1
    obtain ⟨s2, r2, a2, b2, c2⟩ := ih2 hf (s1.setGen _ _) (by rw [a1, hide_set hn]) (hG1.set hn) (t1.set d1.gen)
    exact ⟨s2, .resumeFresh (get_of_not hn hg) r1 hq r2, a2, (((Kp.set hn).trans b1).trans (Kp.set hn)).trans b2, c2⟩
  | @resumeSuspended Γ p g r l k s1 k0 l0 c0 p0 fs0 cl _ _ _ _ hg h1 hq _ ih1 ih2 =>
    intro hf s hs hG hT
    subst hs
    have hn : G g = false := by
      cases q : G g with
      | false => rfl
      | true =>
        obtain ⟨y, hy, hys⟩ := hG g q
        have e2 : (hid G s.gens)[g]? = some (.suspended k0 l0 c0 p0 fs0 cl) := hg
        rw [hid_get, hy, q] at e2
        have e3 : stuck y = .suspended k0 l0 c0 p0 fs0 cl := by simpa using e2
        cases y with
        | suspended k l c p fs cl2 =>
          have e4 : (fun _ => Sem.unsupported "") = k0 := by injection e3
          subst e4
          exact absurd rfl (runs_no_unsupported h1 "")
        | _ => cases hys
    have hfs := hT g _ _ _ _ _ _ (get_of_not hn hg) hn
    obtain ⟨s1, r1, a1, b1, t1, d1⟩ := ih1 hfs (s.setGen g .running) (hide_set hn) (hG.set hn) (hT.set fun _ _ _ _ _ _ q => by cases q)
    have hG1 : Sl G s1.gens := (hG.set hn).kp b1
    obtain ⟨s2, r2, a2, b2, c2⟩ := ih2 hf (s1.setGen g _) (by rw [a1, hide_set hn]) (hG1.set hn) (t1.set d1.gen)
    exact ⟨s2, .resumeSuspended (get_of_not hn hg) r1 hq r2, a2, (((Kp.set hn).trans b1).trans (Kp.set hn)).trans b2, c2⟩
  | resumeJustStarted hg hv _ ih =>
    intro hf s hs hG hT
    subst hs
    have hn := not_of_awake hG hg rfl
    obtain ⟨s', r, a⟩ := ih hf s rfl hG hT
    exact ⟨s', .resumeJustStarted (get_of_not hn hg) hv r, a⟩
  | resumeThrowFresh hg _ ih =>
    intro hf s hs hG hT
    subst hs
    have hn := not_of_awake hG hg rfl
    obtain ⟨s', r, a, b, c⟩ := ih hf (s.setGen _ .finished) (hide_set hn) (hG.set hn) (hT.set fun _ _ _ _ _ _ q => by cases q)
    exact ⟨s', .resumeThrowFresh (get_of_not hn hg) r, a, (Kp.set hn).trans b, c⟩
  | resumeRunning hg _ ih =>
    intro hf s hs hG hT
    subst hs
    have hn := not_of_awake hG hg rfl
    obtain ⟨s', r, a⟩ := ih hf s rfl hG hT
    exact ⟨s', .resumeRunning (get_of_not hn hg) r, a⟩
  | resumeFinished hg _ ih =>
    intro hf s hs hG hT
    subst hs
    have hn := not_of_awake hG hg rfl
    obtain ⟨s', r, a⟩ := ih hf s rfl hG hT
    exact ⟨s', .resumeFinished (get_of_not hn hg) r, a⟩
  | segRet _ _ ih1 ih2 =>
    intro hf s hs hG hT
    obtain ⟨s1, r1, a1, b1, t1, _⟩ := ih1 rfl s hs hG hT
    obtain ⟨s2, r2, a2, b2, c2⟩ := ih2 (split_tail hf) s1 a1 (hG.kp b1) t1
    exact ⟨s2, .segRet r1 r2, a2, b1.trans b2, c2⟩
  | segGen _ _ ih1 ih2 => intro hf; simp [splitAtGen] at hf
  | segSuspOut hs' _ ih => intro hf s hs hG hT; obtain ⟨s', r, a, b, c, d⟩ := ih rfl s hs hG hT; exact ⟨s', .segSuspOut hs' r, a, b, c, split_append d hs'⟩
  | segSuspGen hsp _ hq _ ih1 ih2 => intro hf; rw [hf] at hsp; cases hsp

/-- all sleepers of a table -/
def sleepers (a : Array GenState) (i : Nat) : Bool := match a[i]? with
  | some x => asleep x
  | none => false
theorem sl_sleepers (a : Array GenState) : Sl (sleepers a) a := fun i hi => by
  unfold sleepers at hi
  cases q : a[i]? with
  | none => rw [q] at hi; cases hi
  | some x => rw [q] at hi; exact ⟨x, rfl, hi⟩
theorem tok_sleepers (a : Array GenState) : TOk (sleepers a) a := fun i k l c p fs cl e hi => by
  unfold sleepers at hi
  rw [e] at hi
  cases hi
theorem allBare_hide {G : Nat → Bool} {a : Array GenState} : AllBare (hid G a) ↔ AllBare a := by
  unfold AllBare
  constructor
  · intro h x hx
    obtain ⟨i, hi, e⟩ := Array.mem_iff_getElem.mp hx
    have q : (hid G a)[i]? = some (if G i = true then stuck x else x) := by rw [hid_get, Array.getElem?_eq_getElem hi, e]; rfl
    have := h _ (Array.mem_of_getElem? q)
    split at this
    · rw [stuck_bare] at this; exact this
    · exact this
  · intro h x hx
    obtain ⟨i, hi, e⟩ := Array.mem_iff_getElem.mp hx
    have q : (hid G a)[i]? = some x := by rw [Array.getElem?_eq_getElem hi, e]
    rw [hid_get] at q
    cases r : a[i]? with
    | none => rw [r] at q; cases q
    | some y =>
      rw [r] at q
      have e3 : (if G i = true then stuck y else y) = x := by simpa using q
      have hb := h y (Array.mem_of_getElem? r)
      rw [← e3]
      split
      · rw [stuck_bare]; exact hb
      · exact hb
/-- THE FRAME RULE: a code that ends in the state where all sleepers are stuck ends alike in the true one, and all sleepers sleep on -/
theorem codeAny_frame {M : Model} {A : Around} {c : Code} {R : Result → Shared → Prop} {s : Shared} (h : codeAny M A c R (hide (sleepers s.gens) s)) :
    codeAny M A c (fun r s' => R r (hide (sleepers s.gens) s') ∧ Kp (sleepers s.gens) s.gens s'.gens ∧ s.gens.size ≤ s'.gens.size) s := by
  intro Γ p hc hΓ
  obtain ⟨r, s0', hr, hR⟩ := h Γ p hc hΓ
  obtain ⟨s', hr', e, k, _⟩ := runs_unhide (G := sleepers s.gens) hr rfl s rfl (sl_sleepers _) (tok_sleepers _)
  exact ⟨r, s', hr', by rw [← e]; exact hR, k, GenW.returns_gsz hr'⟩
end K72

-- K72Frame2
set_option Elab.async false
set_option linter.all false
set_option maxRecDepth 100000
set_option maxHeartbeats 1000000
/-! The frame rule for sleeping generators, of terms. -/
namespace K72
open PySem PySem.Spec GenW L2
open Sem (wp)
theorem wakes_unhide {M : Model} {G : Nat → Bool} {Γ : PySem.Ctx} {p : Pos} {g : Nat} {r : Resume} {s : Shared} {res : GenResult} {s0' : Shared} (hG : Sl G s.gens) (hT : TOk G s.gens) (h : Wakes M Γ p g r (hide G s) res s0') :
    ∃ s', Wakes M Γ p g r s res s' ∧ s0' = hide G s' ∧ Kp G s.gens s'.gens ∧ TOk G s'.gens := by
  unfold Wakes at h
  split at h
  · exact h.elim
  · rename_i c hg
    have hn := not_of_awake hG hg rfl
    have hg' := get_of_not hn hg
    cases r with
    | send v =>
      cases v with
      | none =>
        obtain ⟨e1, s1, hr, hq, hres, rfl⟩ := h
        obtain ⟨s2, r2, a2, b2, t2, d2⟩ := runs_unhide hr rfl (s.setGen g .running) (hide_set hn) (hG.set hn) (hT.set fun _ _ _ _ _ _ q => by cases q)
        refine ⟨s2.setGen g e1.genState, ?_, by rw [a2, hide_set hn], ((Kp.set hn).trans b2).trans (Kp.set hn), t2.set d2.gen⟩
        unfold Wakes
        rw [hg']
        exact ⟨e1, s2, r2, hq, hres, rfl⟩
      | _ =>
        obtain ⟨hres, rfl⟩ := h
        refine ⟨s, ?_, rfl, .rfl', hT⟩
        unfold Wakes
        rw [hg']
        exact ⟨hres, rfl⟩
    | throw x =>
      obtain ⟨hres, rfl⟩ := h
      refine ⟨s.setGen g .finished, ?_, hide_set hn, Kp.set hn, hT.set fun _ _ _ _ _ _ q => by cases q⟩
      unfold Wakes
      rw [hg']
      exact ⟨hres, rfl⟩
  · rename_i k0 l0 c0 p0 fs0 cl hg
    obtain ⟨e1, s1, hr, hq, hres, rfl⟩ := h
    have hn : G g = false := by
      cases q : G g with
      | false => rfl
      | true =>
        obtain ⟨y, hy, hys⟩ := hG g q
        have e2 : (hid G s.gens)[g]? = some (.suspended k0 l0 c0 p0 fs0 cl) := hg
        rw [hid_get, hy, q] at e2
        have e3 : stuck y = .suspended k0 l0 c0 p0 fs0 cl := by simpa using e2
        cases y with
        | suspended k l c p fs cl2 =>
          have e4 : (fun _ => Sem.unsupported "") = k0 := by injection e3
          subst e4
          exact absurd rfl (runs_no_unsupported hr "")
        | _ => cases hys
    have hg' := get_of_not hn hg
    have hfs := hT g _ _ _ _ _ _ hg' hn
    obtain ⟨s2, r2, a2, b2, t2, d2⟩ := runs_unhide hr hfs (s.setGen g .running) (hide_set hn) (hG.set hn) (hT.set fun _ _ _ _ _ _ q => by cases q)
    refine ⟨s2.setGen g e1.genState, ?_, by rw [a2, hide_set hn], ((Kp.set hn).trans b2).trans (Kp.set hn), t2.set d2.gen⟩
    unfold Wakes
    rw [hg']
    exact ⟨e1, s2, r2, hq, hres, rfl⟩
  · rename_i hg
    have hn := not_of_awake hG hg rfl
    obtain ⟨hres, rfl⟩ := h
    refine ⟨s, ?_, rfl, .rfl', hT⟩
    unfold Wakes
    rw [get_of_not hn hg]
    exact ⟨hres, rfl⟩
  · rename_i hg
    have hn := not_of_awake hG hg rfl
    obtain ⟨hres, rfl⟩ := h
    refine ⟨s, ?_, rfl, .rfl', hT⟩
    unfold Wakes
    rw [get_of_not hn hg]
    exact ⟨hres, rfl⟩
theorem wp_unhide {α : Type} (M : Model) (Γ : PySem.Ctx) (G : Nat → Bool) (t : Sem α) : ∀ (Q : α → Pos → Shared → Prop) (E : Value → Pos → Shared → Prop) (p : Pos) (s : Shared), Sl G s.gens → TOk G s.gens → wp M Γ t Q E p (hide G s) →
    wp M Γ t (fun a p' s' => Q a p' (hide G s') ∧ Kp G s.gens s'.gens ∧ TOk G s'.gens) (fun e p' s' => E e p' (hide G s') ∧ Kp G s.gens s'.gens ∧ TOk G s'.gens) p s := by
  induction t with
  | pure a => intro Q E p s hG hT h; exact ⟨h, .rfl', hT⟩
  | raise e => intro Q E p s hG hT h; exact ⟨h, .rfl', hT⟩
  | unsupported _ => intro Q E p s _ _ h; exact h
  | finish _ => intro Q E p s _ _ h; exact h
  | rule _ k ih => intro Q E p s hG hT h; exact ih () Q E p s hG hT h
  | «at» p' k ih => intro Q E p s hG hT h; exact ih () Q E p' s hG hT h
  | load a _ k ih => intro Q E p s hG hT h; obtain ⟨o, ho, h⟩ := h; exact ⟨o, ho, ih o Q E p s hG hT h⟩
  | update a _ f k ih => intro Q E p s hG hT h; exact ⟨h.1, ih () Q E p { s with heap := s.heap.update a f } hG hT h.2⟩
  | loadIfAlive a k ih => intro Q E p s hG hT h; exact ih _ Q E p s hG hT h
  | point _ k ih => intro Q E p s hG hT h; exact ih () Q E p s hG hT h
  | register _ _ => intro Q E p s _ _ h; exact h
  | alloc o k ih => intro Q E p s hG hT h; exact ih _ Q E p { s with heap := s.heap.push o } hG hT h
  | fresh k ih => intro Q E p s hG hT h; exact ih _ Q E p { s with toks := s.toks + 1 } hG hT h
  | ask k ih => intro Q E p s hG hT h; exact ih _ Q E p s hG hT h
  | choose src m k ih => intro Q E p s hG hT h; exact ⟨h.1, ih _ Q E p { s with drawn := s.drawn.bump src } hG hT h.2⟩
  | os q _ k ih => intro Q E p s hG hT h; exact ih _ Q E p { s with os := (Os.step s.os q).1 } hG hT h
  | call c hd _ _ k ih =>
    intro Q E p s hG hT h
    obtain ⟨r, s0', hr, h⟩ := h
    obtain ⟨s', hr', e, kp, tk, _⟩ := runs_unhide hr rfl s rfl hG hT
    subst e
    refine ⟨r, s', hr', ?_⟩
    have := ih r Q E p s' (hG.kp kp) tk h
    refine Sem.wp_mono M Γ _ ?_ ?_ _ _ this
    · exact fun a p' s'' z => ⟨z.1, kp.trans z.2.1, z.2.2⟩
    · exact fun a p' s'' z => ⟨z.1, kp.trans z.2.1, z.2.2⟩
  | handled own k ih => intro Q E p s hG hT h; exact ih _ Q E p s hG hT h
  | genState g k ih =>
    intro Q E p s hG hT h
    obtain ⟨st, hs, h⟩ := h
    have e2 : (hid G s.gens)[g]? = some st := hs
    rw [hid_get] at e2
    obtain ⟨y, hq, e3⟩ := Option.map_eq_some_iff.mp e2
    refine ⟨y, hq, ?_⟩
    have : st.seen = y.seen := by
      rw [← e3]
      split
      · exact stuck_seen y
      · rfl
    rw [this] at h
    exact ih _ Q E p s hG hT h
  | newGen c k ih =>
    intro Q E p s hG hT h
    have e1 : (hide G s).gens.size = s.gens.size := hid_size G s.gens
    have h2 : wp M Γ (k s.gens.size) Q E p (hide G { s with gens := s.gens.push (.fresh c) }) := by
      have e : ({ hide G s with gens := (hide G s).gens.push (.fresh c) } : Shared) = hide G { s with gens := s.gens.push (.fresh c) } := by
        show ({ s with gens := (hid G s.gens).push (.fresh c) } : Shared) = _
        rw [hid_push hG]; rfl
      have h3 : wp M Γ (k (hide G s).gens.size) Q E p { hide G s with gens := (hide G s).gens.push (.fresh c) } := h
      rw [e, e1] at h3
      exact h3
    have := ih _ Q E p { s with gens := s.gens.push (.fresh c) } hG.push hT.push h2
    refine Sem.wp_mono M Γ _ ?_ ?_ _ _ this
    · exact fun a p' s'' z => ⟨z.1, (Kp.push hG).trans z.2.1, z.2.2⟩
    · exact fun a p' s'' z => ⟨z.1, (Kp.push hG).trans z.2.1, z.2.2⟩
  | resume g r _ k ih =>
    intro Q E p s hG hT h
    obtain ⟨res, s0', hw, h⟩ := h
    obtain ⟨s', hw', e, kp, tk⟩ := wakes_unhide hG hT hw
    subst e
    refine ⟨res, s', hw', ?_⟩
    have := ih res Q E p s' (hG.kp kp) tk h
    refine Sem.wp_mono M Γ _ ?_ ?_ _ _ this
    · exact fun a p' s'' z => ⟨z.1, kp.trans z.2.1, z.2.2⟩
    · exact fun a p' s'' z => ⟨z.1, kp.trans z.2.1, z.2.2⟩
  | yield _ _ _ _ => intro Q E p s _ _ h; exact h
  | stack k ih => intro Q E p s hG hT h; exact ih _ Q E p s hG hT h
  | fork _ _ => intro Q E p s _ _ h; exact h
  | thread k ih => intro Q E p s hG hT h; exact ih _ Q E p s hG hT h
  | await _ _ _ _ _ => intro Q E p s _ _ h; exact h
/-- THE FRAME RULE, of terms -/
theorem wpAny_frame {α : Type} {M : Model} {A : Around} {t : Sem α} {Q : α → Shared → Prop} {E : Value → Shared → Prop} {s : Shared} (h : wpAny M A t Q E (hide (sleepers s.gens) s)) :
    wpAny M A t (fun a s' => Q a (hide (sleepers s.gens) s') ∧ Kp (sleepers s.gens) s.gens s'.gens ∧ s.gens.size ≤ s'.gens.size) (fun e s' => E e (hide (sleepers s.gens) s')) s := by
  refine wpAny_gsz (Nat.le_refl _) (wpAny_mono (Q := fun a s' => Q a (hide (sleepers s.gens) s') ∧ Kp (sleepers s.gens) s.gens s'.gens) (E := fun e s' => E e (hide (sleepers s.gens) s')) ?_ (fun a s' z hs => ⟨z.1, z.2, hs⟩) fun e s' z _ => z)
  intro Γ p hΓ
  have := wp_unhide M Γ (sleepers s.gens) t (fun a _ => Q a) (fun e _ => E e) p s (sl_sleepers _) (tok_sleepers _) (h Γ p hΓ)
  refine Sem.wp_mono M Γ _ ?_ ?_ _ _ this
  · exact fun a p' s'' z => ⟨z.1, z.2.1⟩
  · exact fun a p' s'' z => z.1
end K72

-- K72Rows
set_option Elab.async false
set_option linter.all false
set_option maxRecDepth 100000
set_option maxHeartbeats 2000000
/-! A generator that is walked item by item while other code runs: its promise, and how next wakes it. -/
namespace K72
open PySem PySem.Spec PyProof.Rows L2 GenW
open Sem (wp)

theorem genState_asleep {e : End} {v : Value} (h : e.result = .yielded v) : asleep e.genState = true := by
  cases e with
  | ret r => cases r with
    | ok f => cases f <;> cases h
    | error e => cases h
  | susp v g l k c p fs => rfl
theorem wakes_asleep {M : Model} {Γ : PySem.Ctx} {p : Pos} {g : Nat} {r : Resume} {s s' : Shared} {v : Value} (hg : g < s.gens.size) (h : Wakes M Γ p g r s (.yielded v) s') : ∃ x, s'.gens[g]? = some x ∧ asleep x = true := by
  have key : ∀ {s1 : Shared} {e : End}, s.gens.size ≤ s1.gens.size → GenResult.yielded v = e.result → ∃ x, (s1.setGen g e.genState).gens[g]? = some x ∧ asleep x = true := fun {s1 e} hs he =>
    ⟨e.genState, by show (s1.gens.setIfInBounds g e.genState)[g]? = _; rw [Array.getElem?_setIfInBounds_self]; rw [if_pos (Nat.lt_of_lt_of_le hg hs)], genState_asleep he.symm⟩
  unfold Wakes at h
  split at h
  · exact h.elim
  · split at h
    · obtain ⟨e, s1, hr, _, he, rfl⟩ := h
      have := runs_gsz hr
      rw [setGen_size] at this
      exact key this he
    · cases h.1
    · cases h.1
  · obtain ⟨e, s1, hr, _, he, rfl⟩ := h
    have := runs_gsz hr
    rw [setGen_size] at this
    exact key this he
  · cases h.1
  · cases h.1
/-- a waking, cut off from what follows it -/
theorem resume_cut {M : Model} {A : Around} {g : Nat} {r : Resume} {l : List Value} {α : Type} {k : GenResult → Sem α} {Q₀ : GenResult → Shared → Prop} {Q : α → Shared → Prop} {E : Value → Shared → Prop} {s : Shared} (hg : g < s.gens.size)
    (h : wpAny M A (.resume g r l Sem.pure) Q₀ (fun _ _ => False) s)
    (hk : ∀ res s', Q₀ res s' → (∀ v, res = .yielded v → ∃ x, s'.gens[g]? = some x ∧ asleep x = true) → wpAny M A (k res) Q E s') : wpAny M A (.resume g r l k) Q E s := by
  intro Γ p hΓ
  have := h Γ p hΓ
  rw [Sem.wp_resume] at this ⊢
  obtain ⟨res, s', hw, hq⟩ := this
  refine ⟨res, s', hw, hk res s' hq (fun v e => ?_) Γ p hΓ⟩
  subst e
  exact wakes_asleep hg hw

/-- what a run of it may change: nothing below lo -/
structure Eff (lo ad : Nat) (s s' : Shared) : Prop where
  keep : ∀ b o, (b < lo ∨ b = ad) → s.heap.get? b = some o → s'.heap.get? b = some o
  os : s'.os = s.os
  bare : AllBare s'.gens
  gsz : s.gens.size ≤ s'.gens.size
theorem Eff.trans {lo ad : Nat} {s s1 s2 : Shared} (a : Eff lo ad s s1) (b : Eff lo ad s1 s2) : Eff lo ad s s2 :=
  ⟨fun x o hx h => b.keep x o hx (a.keep x o hx h), b.os.trans a.os, b.bare, Nat.le_trans a.gsz b.gsz⟩
theorem Eff.mono {lo lo' ad ad' : Nat} {s s1 : Shared} (a : Eff lo ad s s1) (h : lo' ≤ lo) (k : ad' < lo) : Eff lo' ad' s s1 := ⟨fun x o hx q => a.keep x o (.inl (by rcases hx with e | e <;> omega)) q, a.os, a.bare, a.gsz⟩
theorem Eff.of_set {lo ad g : Nat} {s s1 : Shared} {x : GenState} (a : Eff lo ad (s.setGen g x) s1) : Eff lo ad s s1 := ⟨a.keep, a.os, a.bare, by have := a.gsz; rw [setGen_size] at this; exact this⟩
theorem Eff.to_set {lo ad g : Nat} {s s1 : Shared} {x : GenState} (a : Eff lo ad s s1) (hx : x.bare = true) : Eff lo ad s (s1.setGen g x) := ⟨a.keep, a.os, allBare_setGen a.bare hx, by rw [setGen_size]; exact a.gsz⟩
/-- what others may change while it sleeps -/
structure Slp (base : Heap) (lo g : Nat) (s s' : Shared) : Prop where
  keep : ∀ b o, lo ≤ b → (∀ v, o.data ≠ .cell v) → s.heap.get? b = some o → s'.heap.get? b = some o
  base : ∀ b o, base.get? b = some o → s.heap.get? b = some o → s'.heap.get? b = some o
  os : s'.os = s.os
  bare : AllBare s'.gens
  gsz : s.gens.size ≤ s'.gens.size
  slp : ∀ i x, g < i → s.gens[i]? = some x → asleep x = true → s'.gens[i]? = some x
/-- it changes nothing -/
structure Kt (s s' : Shared) : Prop where
  keep : ∀ b o, s.heap.get? b = some o → s'.heap.get? b = some o
  os : s'.os = s.os
  gens : s'.gens = s.gens
  hsz : s.heap.objs.size ≤ s'.heap.objs.size
section
variable {base : Heap} {lo ad g : Nat} {s s1 s2 : Shared}
theorem Slp.trans (a : Slp base lo g s s1) (b : Slp base lo g s1 s2) : Slp base lo g s s2 :=
  ⟨fun x o hx d h => b.keep x o hx d (a.keep x o hx d h), fun x o hx h => b.base x o hx (a.base x o hx h), b.os.trans a.os, b.bare, Nat.le_trans a.gsz b.gsz, fun i x hi h q => b.slp i x hi (a.slp i x hi h q) q⟩
theorem Slp.mono {lo' g' : Nat} (a : Slp base lo g s s1) (h : lo ≤ lo') (k : g ≤ g') : Slp base lo' g' s s1 :=
  ⟨fun x o hx d q => a.keep x o (Nat.le_trans h hx) d q, a.base, a.os, a.bare, a.gsz, fun i x hi q => a.slp i x (Nat.lt_of_le_of_lt k hi) q⟩
theorem Slp.of_set {x : GenState} (a : Slp base lo g (s.setGen g x) s1) : Slp base lo g s s1 :=
  ⟨a.keep, a.base, a.os, a.bare, by have := a.gsz; rw [setGen_size] at this; exact this, fun i y hi h q => a.slp i y hi (by
    show (s.gens.setIfInBounds g x)[i]? = some y
    rw [Array.getElem?_setIfInBounds_ne (Nat.ne_of_lt hi)]; exact h) q⟩
theorem Slp.set_l {x : GenState} (a : Slp base lo g s s1) : Slp base lo g (s.setGen g x) s1 :=
  ⟨a.keep, a.base, a.os, a.bare, by rw [setGen_size]; exact a.gsz, fun i y hi h q => a.slp i y hi (by
    have h : (s.gens.setIfInBounds g x)[i]? = some y := h
    rw [Array.getElem?_setIfInBounds_ne (Nat.ne_of_lt hi)] at h; exact h) q⟩
theorem Slp.to_set {x : GenState} (a : Slp base lo g s s1) (hx : x.bare = true) : Slp base lo g s (s1.setGen g x) :=
  ⟨a.keep, a.base, a.os, allBare_setGen a.bare hx, by rw [setGen_size]; exact a.gsz, fun i y hi h q => by
    show (s1.gens.setIfInBounds g x)[i]? = some y
    rw [Array.getElem?_setIfInBounds_ne (Nat.ne_of_lt hi)]; exact a.slp i y hi h q⟩
theorem Kt.refl : Kt s s := ⟨fun _ _ h => h, rfl, rfl, Nat.le_refl _⟩
theorem Kt.trans (a : Kt s s1) (b : Kt s1 s2) : Kt s s2 := ⟨fun x o h => b.keep x o (a.keep x o h), b.os.trans a.os, b.gens.trans a.gens, Nat.le_trans a.hsz b.hsz⟩
theorem Kt.tok {t : Nat} : Kt s { s with toks := t } := ⟨fun _ _ h => h, rfl, rfl, Nat.le_refl _⟩
theorem Kt.push {o : Obj} {t : Nat} : Kt s { s with heap := s.heap.push o, toks := t } := ⟨fun _ _ h => Heap.get?_push_of_some _ h, rfl, rfl, by show _ ≤ (s.heap.push o).objs.size; rw [Heap.size_push]; exact Nat.le_succ _⟩
theorem Kt.eff (a : Kt s s1) (b : AllBare s.gens) : Eff lo ad s s1 := ⟨fun x o _ h => a.keep x o h, a.os, by rw [a.gens]; exact b, by rw [a.gens]; exact Nat.le_refl _⟩
theorem Kt.slp (a : Kt s s1) (b : AllBare s.gens) : Slp base lo g s s1 := ⟨fun x o _ _ h => a.keep x o h, fun x o _ h => a.keep x o h, a.os, by rw [a.gens]; exact b, by rw [a.gens]; exact Nat.le_refl _, fun i x _ h _ => by rw [a.gens]; exact h⟩
end

/-- a tuple of whole numbers -/
def TupAt (h : Heap) (T : Addr) (row : List Nat) : Prop := ∃ us, Vals (row.map vi) us ∧ IsTup h T us.toArray
def REndR (lo ad : Nat) : GenEnd := fun n s₀ r s => (r = .ok (.ret .none) ∨ r = .ok .next) ∧ (n = 0 ∧ Eff lo ad s₀ s)
/-- the rows are handed out one by one -/
def YRow (base : Heap) (lo ad g : Nat) (rows : List (List Nat)) : Protocol := fun n s₀ v s kap =>
  ∃ (done : List (List Nat)) (row : List Nat) (rem : List (List Nat)) (T : Addr), rows = done ++ row :: rem ∧ rem.length = n ∧ v = .ref T ∧ lo ≤ T ∧ TupAt s.heap T row ∧ Eff lo ad s₀ s ∧ ∀ s'', Slp base lo g s s'' → kap (.send .none) s''
abbrev RowsGo (M : Model) (B : Around) (base : Heap) (lo ad g : Nat) (rows : List (List Nat)) (n : Nat) (gs : GenState) (s : Shared) : Prop := gs.Goes M B (REndR lo ad) (YRow base lo ad g rows) n (.send .none) s
/-- it stands ready -/
def RReady (M : Model) (B : Around) (base : Heap) (lo ad g : Nat) (rows : List (List Nat)) (n : Nat) (s : Shared) : Prop := ∃ gs, s.gens[g]? = some gs ∧ RowsGo M B base lo ad g rows n gs (s.setGen g .running)
/-- it sleeps -/
def RSleeps (M : Model) (B : Around) (base : Heap) (lo ad g : Nat) (rows : List (List Nat)) (n : Nat) (s : Shared) : Prop := ∃ gs, s.gens[g]? = some gs ∧ asleep gs = true ∧ ∀ s'', Slp base lo g s s'' → RowsGo M B base lo ad g rows n gs s''
theorem RSleeps.ready {M : Model} {B : Around} {base : Heap} {lo ad g : Nat} {rows : List (List Nat)} {n : Nat} {s s' : Shared} (h : RSleeps M B base lo ad g rows n s) (k : Slp base lo g s s') (hg : ∀ x, s.gens[g]? = some x → asleep x = true → s'.gens[g]? = some x) : RReady M B base lo ad g rows n s' := by
  obtain ⟨gs, h1, h2, h3⟩ := h
  exact ⟨gs, hg gs h1 h2, h3 _ (k.to_set rfl)⟩
theorem RSleeps.slp {M : Model} {B : Around} {base : Heap} {lo ad g : Nat} {rows : List (List Nat)} {n : Nat} {s s' : Shared} (h : RSleeps M B base lo ad g rows n s) (k : Slp base lo g s s') (hg : ∀ x, s.gens[g]? = some x → asleep x = true → s'.gens[g]? = some x) : RSleeps M B base lo ad g rows n s' := by
  obtain ⟨gs, h1, h2, h3⟩ := h
  exact ⟨gs, hg gs h1 h2, h2, fun s'' k2 => h3 s'' (k.trans k2)⟩
section
variable {P : Program} {w : World} {A : Around} {E : Value → Shared → Prop} {s : Shared}
/-- next(it) -/
theorem next_rows {base : Heap} {lo a g n : Nat} {rows : List (List Nat)} {Q : Option Value → Shared → Prop} (hh : A.handled = none) (hl : s.heap.NoLimit) (hroom : A.depth < recursionLimit) (hg : s.heap.IsGen a g) (hr : RReady (model P w) A.in1 base lo a g rows n s)
    (h0 : n = 0 → ∀ s', Eff lo a s s' → Q none s')
    (h1 : ∀ done row rem T s', rows = done ++ row :: rem → rem.length + 1 = n → lo ≤ T → TupAt s'.heap T row → Eff lo a s s' → RSleeps (model P w) A.in1 base lo a g rows rem.length s' → Q (some (.ref T)) s') :
    wpAny (model P w) A (pyNext (.ref a)) Q E s := by
  obtain ⟨gs, hgs, hgo⟩ := hr
  have hlt : g < s.gens.size := (Array.getElem?_eq_some_iff.mp hgs).1
  unfold pyNext
  refine wpAny_bind (wpAny_attempt ?_)
  refine wpAny_callSpecial?_slot (name := Str.ofString "__next__") hg.typeIs slot_gen_next ?_
  refine wpAny_call_entry slot_gen_next hg.typeIs entry_gen_next ?_ (args_gen_next _)
  show wpAny _ A.in1 (Builtin.Generator.genWake (.ref a) (.send .none)) _ _ s
  unfold Builtin.Generator.genWake
  refine wpAny_bind (wpAny_holding (wpAny_genNumber hg ?_))
  refine wpAny_bind (wpAny_genState hgs ?_)
  have main : ∀ {α : Type} {k : GenResult → Sem α} {l : List Value} {Q' : α → Shared → Prop} {E' : Value → Shared → Prop}, (n = 0 → ∀ s1, Eff lo a s s1 → wpAny (model P w) A.in1 (k (.returned .none)) Q' E' (s1.setGen g .finished)) →
      (∀ done row rem T s', rows = done ++ row :: rem → rem.length + 1 = n → lo ≤ T → TupAt s'.heap T row → Eff lo a s s' → RSleeps (model P w) A.in1 base lo a g rows rem.length s' → wpAny (model P w) A.in1 (k (.yielded (.ref T))) Q' E' s') →
      wpAny (model P w) A.in1 (.resume g (.send .none) l k) Q' E' s := fun {α k l Q' E'} k0 k1 => by
    refine resume_cut (Q₀ := fun res s' => (n = 0 ∧ res = .returned .none ∧ ∃ s1, Eff lo a s s1 ∧ s' = s1.setGen g .finished) ∨
      (∃ gs' s1 done row rem T, s' = s1.setGen g gs' ∧ gs'.bare = true ∧ res = .yielded (.ref T) ∧ rows = done ++ row :: rem ∧ rem.length + 1 = n ∧ lo ≤ T ∧ TupAt s1.heap T row ∧ Eff lo a s s1 ∧ ∀ s'', Slp base lo g s1 s'' → RowsGo (model P w) A.in1 base lo a g rows rem.length gs' s'')) hlt
      (wpAny_resumeQ hgs hgo (fun x s1 hx => ?_) (fun v s1 gs' hb hv => ?_)) ?_
    · obtain ⟨hx, hn, he⟩ := hx
      have hres : End.result (.ret x) = .returned .none := by rcases hx with e | e <;> rw [e] <;> rfl
      rw [hres]
      exact wpAny_pure (.inl ⟨hn, rfl, s1, he.of_set, rfl⟩)
    · obtain ⟨done, row, rem, T, e1, e2, e3, e4, e5, e6, e7⟩ := hv
      subst e3
      cases n with
      | zero =>
        exact (e7 s1 ⟨fun _ _ _ _ h => h, fun _ _ _ h => h, rfl, e6.bare, Nat.le_refl _, fun _ _ _ h _ => h⟩).elim
      | succ m =>
        have e2 : rem.length = m := e2
        subst e2
        exact wpAny_pure (.inr ⟨gs', s1, done, row, rem, T, rfl, hb, rfl, e1, rfl, e4, e5, e6.of_set, e7⟩)
    · intro res s' hq hy
      rcases hq with ⟨hn, rfl, s1, he, rfl⟩ | ⟨gs', s1, done, row, rem, T, rfl, hb, rfl, e1, e2, e4, e5, e6, e7⟩
      · exact k0 hn s1 he
      · obtain ⟨x, hx, hxa⟩ := hy _ rfl
        have hx' : (s1.gens.setIfInBounds g gs')[g]? = some x := hx
        have hlt1 : g < s1.gens.size := Nat.lt_of_lt_of_le hlt e6.gsz
        have ex : gs' = x := by
          rw [Array.getElem?_setIfInBounds_self, if_pos hlt1] at hx'
          exact Option.some.inj hx'
        subst ex
        exact k1 done row rem T _ e1 e2 e4 e5 (e6.to_set hb) ⟨gs', hx, hxa, fun s'' k2 => e7 s'' k2.of_set⟩
  have body : gs ≠ .running ∧ gs ≠ .finished := by
    constructor <;> (intro e; subst e; exact hgo.elim)
  cases gs with
  | running => exact absurd rfl body.1
  | finished => exact absurd rfl body.2
  | _ =>
    refine wpAny_bind (wpAny_roomToWake hl hroom ?_)
    refine main (fun hn s1 he => ?_) (fun done row rem T s' e1 e2 e4 e5 e6 e7 => ?_)
    · show wpAny _ A.in1 (newExc (.type "StopIteration") [] >>= _) _ _ _
      refine wpAny_bind ?_
      simp only [newExc, newTuple]
      refine wpAny_bind (wpAny_newObj_type ?_ (by size_fits))
      refine wpAny_bind (m := firstArgMember _ _) (wpAny_of_eq (a := Value.none) (by simp only [firstArgMember]; rfl) ?_)
      refine wpAny_newObj_type ?_ (by size_fits)
      simp only [raiseNew]
      refine wpAny_bind (wpAny_bind (wpAny_handled ?_))
      rw [show A.in1.handled = none from hh]
      refine wpAny_throw ?_
      refine wpAny_bind ?_
      refine wpAny_isInstance (T := "StopIteration") (b := true) ⟨_, Heap.get?_push_size _ rfl, rfl⟩ isSubtype_stop ?_
      have he2 : Eff lo a s (s1.setGen g .finished) := he.to_set rfl
      refine wpAny_pure (h0 hn _ ⟨fun b o hb e => ?_, he2.os, he2.bare, he2.gsz⟩)
      exact Heap.get?_push_of_some _ (Heap.get?_push_of_some _ (he2.keep b o hb e))
    · exact wpAny_pure ⟨_, rfl, wpAny_pure (h1 done row rem T s' e1 e2 e4 e5 e6 e7)⟩
end
end K72

-- K72Rows2
set_option Elab.async false
set_option linter.all false
set_option maxRecDepth 100000
set_option maxHeartbeats 2000000
/-! votes.py: rows_with_sum. -/
namespace K72
open PySem PySem.Spec PyProof.Rows L2 GenW
def rowsN : Nat → Nat → List (List Nat)
  | 0, _ => []
  | 1, a => [[a]]
  | k + 2, a => (List.range' 0 (a + 1)).flatMap fun f => (rowsN (k + 1) (a - f)).map (f :: ·)
def restFrom (k a i j : Nat) : List (List Nat) := (List.range' i j).flatMap fun f => (rowsN (k + 1) (a - f)).map (f :: ·)
theorem restFrom_succ {k a i j : Nat} : restFrom k a i (j + 1) = (rowsN (k + 1) (a - i)).map (i :: ·) ++ restFrom k a (i + 1) j := rfl
theorem rowsN_length : ∀ {k a : Nat} {r : List Nat}, r ∈ rowsN k a → r.length = k
  | 0, a, r, h => nomatch h
  | 1, a, r, h => by rw [List.mem_singleton.mp h]; rfl
  | k + 2, a, r, h => by
    obtain ⟨f, _, h⟩ := List.mem_flatMap.mp h
    obtain ⟨r', h2, e⟩ := List.mem_map.mp h
    rw [← e, List.length_cons, rowsN_length h2]
section
variable {P : Program} {w : World} {K : PySem.W.Frag} {mg : Str → Option Value} {base : Heap}
abbrev gEnv (K : PySem.W.Frag) (cdv : Value) (lo : Nat) : Env := envOfC "rows_with_sum" (defScope s_rows_with_sum) lo (He.ga K "rows_with_sum") cdv
section
variable {cdv : Value} {lo : Nat} {A : Around} {s : Shared} {m : Str → Option Value} {v : Value}
theorem kind_g {x : Str} {k : NameKind} (h : (defScope s_rows_with_sum).names.lookup x = some k) : (gEnv K cdv lo).kindOf x = some k := h
theorem ev_loc {x : Str} {pos : Pos} {E : Value → Shared → Prop} {Q : Value → Shared → Prop} (hl : (defScope s_rows_with_sum).names.lookup x = some .local) (hn : s.heap.Ns lo m) (hv : m x = some v) (h : Q v s)
    (hd : (x == ("__debug__" : Str)) = false := by decide) : wpAny (model P w) A (eval (.Name x pos) (gEnv K cdv lo)) Q E s :=
  wpAny_Name (wpAny_loadName_local (env := gEnv K cdv lo) rfl hl hn hv h) hd
theorem ev_addc {x : Str} {pos p2 p3 : Pos} {k : Nat} {i : Int} {t : Tok} {E : Value → Shared → Prop} {Q : Value → Shared → Prop} (hl : (defScope s_rows_with_sum).names.lookup x = some .local) (hn : s.heap.Ns lo m) (hv : m x = some (.int i t)) (h : ∀ t s', Kt s s' → Q (.int (i + 1) t) s')
    (hd : (x == ("__debug__" : Str)) = false := by decide) : wpAny (model P w) A (eval (.BinOp (.Name x pos) .Add (.Constant (.int 1) k p2) p3) (gEnv K cdv lo)) Q E s :=
  wpAny_BinOp (ev_loc hl hn hv (wpAny_Constant_int (add_int (h _ _ (Kt.tok.trans Kt.tok)))) hd)
theorem ev_subc {x : Str} {pos p2 p3 : Pos} {k : Nat} {i : Int} {t : Tok} {E : Value → Shared → Prop} {Q : Value → Shared → Prop} (hl : (defScope s_rows_with_sum).names.lookup x = some .local) (hn : s.heap.Ns lo m) (hv : m x = some (.int i t)) (h : ∀ t s', Kt s s' → Q (.int (i - 1) t) s')
    (hd : (x == ("__debug__" : Str)) = false := by decide) : wpAny (model P w) A (eval (.BinOp (.Name x pos) .Sub (.Constant (.int 1) k p2) p3) (gEnv K cdv lo)) Q E s :=
  wpAny_BinOp (ev_loc hl hn hv (wpAny_Constant_int (PyProof.Rows.sub_int (h _ _ (Kt.tok.trans Kt.tok)))) hd)
theorem ev_sub {x y : Str} {pos p2 p3 : Pos} {i j : Int} {t u : Tok} {E : Value → Shared → Prop} {Q : Value → Shared → Prop} (hl : (defScope s_rows_with_sum).names.lookup x = some .local) (hl2 : (defScope s_rows_with_sum).names.lookup y = some .local) (hn : s.heap.Ns lo m) (hv : m x = some (.int i t)) (hw : m y = some (.int j u)) (h : ∀ t s', Kt s s' → Q (.int (i - j) t) s')
    (hd : (x == ("__debug__" : Str)) = false := by decide) (hd2 : (y == ("__debug__" : Str)) = false := by decide) : wpAny (model P w) A (eval (.BinOp (.Name x pos) .Sub (.Name y p2) p3) (gEnv K cdv lo)) Q E s :=
  wpAny_BinOp (ev_loc hl hn hv (ev_loc hl2 hn hw (PyProof.Rows.sub_int (h _ _ Kt.tok)) hd2) hd)
theorem ev_one {x : Str} {pos p2 : Pos} {n : Nat} {E : Value → Shared → Prop} {Q : Value → Shared → Prop} (hl : (defScope s_rows_with_sum).names.lookup x = some .local) (hn : s.heap.Ns lo m) (hv : m x = some v) (h : ∀ s', Kt s s' → IsTup s'.heap s.heap.objs.size #[v] → Q (.ref s.heap.objs.size) s')
    (hd : (x == ("__debug__" : Str)) = false := by decide) : wpAny (model P w) A (eval (.Tuple [.Name x pos] n p2) (gEnv K cdv lo)) Q E s := by
  refine wpAny_Tuple_spliced ?_
  show wpAny _ _ (spliced ((false, eval (.Name x pos) (gEnv K cdv lo)) :: [])) _ _ s
  refine Calls.spliced_cons (ev_loc hl hn hv (Calls.spliced_nil ⟨by show 1 ≤ sizeLine; decide, h _ Kt.push (IsTup.new _ _)⟩) hd)
theorem ev_cat {x y : Str} {pos p2 p3 p4 : Pos} {n T : Nat} {f : Nat} {t : Tok} {row : List Nat} {E : Value → Shared → Prop} {Q : Value → Shared → Prop} (hl : (defScope s_rows_with_sum).names.lookup x = some .local) (hl2 : (defScope s_rows_with_sum).names.lookup y = some .local) (hn : s.heap.Ns lo m) (hv : m x = some (.int (f : Nat) t)) (hw : m y = some (.ref T)) (ht : TupAt s.heap T row) (hne : row ≠ []) (hsz : 1 + row.length ≤ sizeLine)
    (h : ∀ U s', Kt s s' → s.heap.objs.size ≤ U → TupAt s'.heap U (f :: row) → Q (.ref U) s')
    (hd : (x == ("__debug__" : Str)) = false := by decide) (hd2 : (y == ("__debug__" : Str)) = false := by decide) : wpAny (model P w) A (eval (.BinOp (.Tuple [.Name x pos] n p2) .Add (.Name y p3) p4) (gEnv K cdv lo)) Q E s := by
  refine wpAny_BinOp (ev_one hl hn hv (fun s1 k1 i1 => ?_) hd)
  refine ev_loc (m := m) hl2 ?_ hw ?_ hd2
  · exact hn.keeps k1.keep
  · obtain ⟨us, ru, iu⟩ := ht
    have hlen : us.length = row.length := by have := ru.length; rw [List.length_map] at this; exact this.symm
    have hune : us ≠ [] := fun e => by rw [e] at hlen; cases row with
      | nil => exact hne rfl
      | cons _ _ => cases hlen
    refine HT.cat_tup (vs := [.int (f : Nat) t]) (ws := us) i1 (iu.keeps k1.keep) (by simp) (fun e => absurd e hune) (fun _ => ?_) (by rw [hlen]; exact hsz)
    exact h _ _ (k1.trans Kt.push) k1.hsz ⟨_, .cons ⟨_, rfl⟩ ru, IsTup.new _ _⟩
/-- the module's facts at a state -/
theorem base_glob {x : Str} {pos : Pos} {E : Value → Shared → Prop} {Q : Value → Shared → Prop} (M : Mod K mg base) (b : ∀ b o, base.get? b = some o → s.heap.get? b = some o) (hg : (defScope s_rows_with_sum).names.lookup x = some .globalImplicit) (hm : mg x = some v) (h : Q v s)
    (hd : (x == ("__debug__" : Str)) = false := by decide) : wpAny (model P w) A (eval (.Name x pos) (gEnv K cdv lo)) Q E s :=
  Calls.Name_function_global (env := gEnv K cdv lo) rfl hg (Calls.loadGlobal_global (M.glob.keeps b) hm h) hd
theorem base_blt {x : Str} {pos : Pos} {E : Value → Shared → Prop} {Q : Value → Shared → Prop} (M : Mod K mg base) (b : ∀ b o, base.get? b = some o → s.heap.get? b = some o) (hg : (defScope s_rows_with_sum).names.lookup x = some .globalImplicit) (hm : mg x = none) (hv : bootBuiltins x = some v) (h : Q v s)
    (hn : x ≠ "__name__" := by decide) (hd : (x == ("__debug__" : Str)) = false := by decide) : wpAny (model P w) A (eval (.Name x pos) (gEnv K cdv lo)) Q E s := by
  obtain ⟨mb, h1, h2⟩ := M.blt
  exact Calls.Name_function_global (env := gEnv K cdv lo) rfl hg (Calls.loadGlobal_builtin (M.glob.keeps b) hm (h1.keeps b) ((h2 x hn).trans hv) h) hd
theorem st_loc {x : Str} {pos : Pos} {u : Value} {E : Value → Shared → Prop} {Q : Unit → Shared → Prop} (hl : (defScope s_rows_with_sum).names.lookup x = some .local) (hn : s.heap.Ns lo m)
    (h : ∀ s', s'.heap.Ns lo (fun y => if y = x then some u else m y) → Heap.SameBut lo s.heap s'.heap → s'.os = s.os → s'.gens = s.gens → Q () s') : wpAny (model P w) A (assign (.Name x pos) (gEnv K cdv lo) u) Q E s :=
  wpAny_assign_Name (wpAny_storeName_local (env := gEnv K cdv lo) hl hn (fun h' a b => h _ a b rfl rfl) rfl)
end
end
end K72

-- K72Rows3
set_option Elab.async false
set_option linter.all false
set_option maxRecDepth 100000
set_option maxHeartbeats 2000000
/-! votes.py: rows_with_sum, the loops. -/
namespace K72
open PySem PySem.Spec PyProof.Rows L2 GenW
/-- a frame of rows_with_sum stands -/
structure GLi (base : Heap) (lo g k a : Nat) (m : Str → Option Value) (s : Shared) : Prop where
  ns : s.heap.Ns lo m
  len : ∃ t, m "length" = some (.int (k : Nat) t)
  am : ∃ t, m "amount" = some (.int (a : Nat) t)
  bk : ∀ b o, base.get? b = some o → s.heap.get? b = some o
  gs : g < s.gens.size
  bare : AllBare s.gens
section
variable {base : Heap} {lo ad g k a : Nat} {m : Str → Option Value} {s s' : Shared}
theorem ns_data {h : Heap} {o : Obj} (x : h.Ns lo m) (e : h.get? lo = some o) : ∀ v, o.data ≠ .cell v := fun v q => by
  obtain ⟨o', es, ep, ho, hd, _⟩ := x
  rw [e] at ho; cases ho; rw [hd] at q; cases q
theorem Ns_at {h h' : Heap} (x : h.Ns lo m) (e : ∀ o, h.get? lo = some o → h'.get? lo = some o) : h'.Ns lo m := by
  obtain ⟨o, es, ep, ho, r⟩ := x
  exact ⟨o, es, ep, e o ho, r⟩
theorem GLi.kt (x : GLi base lo g k a m s) (h : Kt s s') : GLi base lo g k a m s' := ⟨Ns_at x.ns fun o e => h.keep _ _ e, x.len, x.am, fun b o e => h.keep b o (x.bk b o e), by rw [h.gens]; exact x.gs, by rw [h.gens]; exact x.bare⟩
theorem GLi.slp (x : GLi base lo g k a m s) (h : Slp base lo g s s') : GLi base lo g k a m s' := ⟨Ns_at x.ns fun o e => h.keep _ _ (Nat.le_refl _) (ns_data x.ns e) e, x.len, x.am, fun b o e => h.base b o e (x.bk b o e), Nat.lt_of_lt_of_le x.gs h.gsz, h.bare⟩
theorem GLi.eff {lo' ad' : Nat} (x : GLi base lo g k a m s) (h : Eff lo' ad' s s') (hlt : lo < lo') (hb : base.objs.size ≤ lo) : GLi base lo g k a m s' :=
  ⟨Ns_at x.ns fun o e => h.keep _ _ (.inl hlt) e, x.len, x.am, fun b o e => h.keep b o (.inl (Nat.lt_trans (Nat.lt_of_lt_of_le (Heap.lt_size e) hb) hlt)) (x.bk b o e), Nat.lt_of_lt_of_le x.gs h.gsz, h.bare⟩
theorem GLi.set {x : Str} {u : Value} (y : GLi base lo g k a m s) (hb : base.objs.size ≤ lo) (hx : x ≠ "length") (hx2 : x ≠ "amount") (hn : s'.heap.Ns lo fun y => if y = x then some u else m y) (h : Heap.SameBut lo s.heap s'.heap) (hg : s'.gens = s.gens) : GLi base lo g k a (fun y => if y = x then some u else m y) s' :=
  ⟨hn, by obtain ⟨t, e⟩ := y.len; exact ⟨t, by rw [if_neg (Ne.symm hx)]; exact e⟩, by obtain ⟨t, e⟩ := y.am; exact ⟨t, by rw [if_neg (Ne.symm hx2)]; exact e⟩,
    fun b o e => h.extBut b o (Nat.ne_of_lt (Nat.lt_of_lt_of_le (Heap.lt_size e) hb)) (y.bk b o e), by rw [hg]; exact y.gs, by rw [hg]; exact y.bare⟩
theorem eff_set (hla : lo < ad) (hb : AllBare s.gens) (h : Heap.SameBut lo s.heap s'.heap) (ho : s'.os = s.os) (hg : s'.gens = s.gens) : Eff lo ad s s' := ⟨fun b o hl e => h.extBut b o (hl.elim Nat.ne_of_lt fun e => by rw [e]; exact Nat.ne_of_gt hla) e, ho, by rw [hg]; exact hb, by rw [hg]; exact Nat.le_refl _⟩
theorem slp_set {lo' g' : Nat} (hlt : lo < lo') (hb' : base.objs.size ≤ lo) (hb : AllBare s.gens) (h : Heap.SameBut lo s.heap s'.heap) (ho : s'.os = s.os) (hg : s'.gens = s.gens) : Slp base lo' g' s s' :=
  ⟨fun b o hl _ e => h.extBut b o (Nat.ne_of_gt (Nat.lt_of_lt_of_le hlt hl)) e, fun b o e q => h.extBut b o (Nat.ne_of_lt (Nat.lt_of_lt_of_le (Heap.lt_size e) hb')) q, ho, by rw [hg]; exact hb, by rw [hg]; exact Nat.le_refl _, fun i x _ q _ => by rw [hg]; exact q⟩
end
section
variable {P : Program} {w : World} {K : PySem.W.Frag} {mg : Str → Option Value} {base : Heap} {cdv : Value} {lo g k a : Nat}
/-- for rest in ..: yield ((first,) + rest) -/
theorem seg_inner {B A' : Around} {fs : List Frame} {n0 : Nat} {p1 p2 p3 p4 p5 p6 p7 : Pos} {rows tail : List (List Nat)} {aa ad lo' g' kk f : Nat} {F : Shared → Prop} (hbl : base.objs.size ≤ lo) (haa : lo < aa) (haa2 : aa < lo') (M : Mod K mg base)
    (hov : B.over (.forLoop (.Name "rest" p1) (.ref ad) [.Expr (.Yield (some (.BinOp (.Tuple [.Name "first" p2] n0 p3) .Add (.Name "rest" p4) p5)) p6) p7] [] (gEnv K cdv lo)) fs = A') (hsp : splitAtGen fs = none) (hgu : fs.any Frame.guarded = false)
    (hh : A'.handled = none) (hd : A'.depth < recursionLimit) (hlo : lo < lo') (hgg : g < g') (had : lo' ≤ ad) (hk0 : 1 ≤ kk) (hk9 : kk < 1000)
    (hF : ∀ s s', (∀ b o, lo ≤ b → b ≠ lo → b < lo' → (∀ v, o.data ≠ .cell v) → s.heap.get? b = some o → s'.heap.get? b = some o) → F s → F s')
    (cont : ∀ n s₀ s m, n = tail.length → GLi base lo g k a m s → Eff lo aa s₀ s → F s → Seg (model P w) B (REndR lo aa) (YRow base lo aa g rows) n s₀ (.block [] (gEnv K cdv lo)) (leafOf (.ok .next)) fs s) :
    ∀ (rem' done' : List (List Nat)) (n : Nat) (done0 : List (List Nat)) (s₀ s : Shared) (m : Str → Option Value), (∀ r ∈ rem', r.length = kk) → rowsN kk (a - f) = done' ++ rem' → n = rem'.length + tail.length → rows = done0 ++ (rem'.map (f :: ·) ++ tail) → GLi base lo g k a m s → (∃ t, m "first" = some (.int (f : Nat) t)) →
      s.heap.IsGen ad g' → RReady (model P w) A'.in1 base lo' ad g' (rowsN kk (a - f)) rem'.length s → Eff lo aa s₀ s → F s →
      Seg (model P w) B (REndR lo aa) (YRow base lo aa g rows) n s₀ (.forLoop (.Name "rest" p1) (.ref ad) [.Expr (.Yield (some (.BinOp (.Tuple [.Name "first" p2] n0 p3) .Add (.Name "rest" p4) p5)) p6) p7] [] (gEnv K cdv lo))
        ((model P w).den (.forLoop (.Name "rest" p1) (.ref ad) [.Expr (.Yield (some (.BinOp (.Tuple [.Name "first" p2] n0 p3) .Add (.Name "rest" p4) p5)) p6) p7] [] (gEnv K cdv lo))) fs s := by
  intro rem'
  induction rem' with
  | nil =>
    intro done' n done0 s₀ s m hrl hr hn hrows G hf hgen hrdy he hFs
    refine seg_forLoop ?_
    rw [hov]
    refine next_rows hh (M.nolimit.keeps G.bk) hd hgen hrdy (fun _ s' e1 => ?_) fun done row rem T s' e1 e2 _ _ _ _ => by cases e2
    have hn2 : n = tail.length := by rw [hn]; exact Nat.zero_add _
    exact cont n s₀ s' m hn2 (G.eff e1 hlo hbl) (he.trans (e1.mono (Nat.le_of_lt hlo) haa2)) (hF s s' (fun b o _ _ hl _ q => e1.keep b o (.inl hl) q) hFs)
  | cons r rem' ih =>
    intro done' n done0 s₀ s m hrl hr hn hrows G hf hgen hrdy he hFs
    refine seg_forLoop ?_
    rw [hov]
    refine next_rows hh (M.nolimit.keeps G.bk) hd hgen hrdy (fun h0 => absurd h0 (by simp)) fun done row rem T s1 e1 e2 hT ht ee hs => ?_
    have hrow : row = r ∧ rem = rem' := by
      have h1 : done ++ row :: rem = done' ++ r :: rem' := e1.symm.trans hr
      have h2 : (row :: rem).length = (r :: rem').length := by simp only [List.length_cons] at e2 ⊢; omega
      have := (List.append_inj' h1 h2).2
      injection this with q1 q2
      exact ⟨q1, q2⟩
    obtain ⟨rfl, rfl⟩ := hrow
    show wpAny _ _ (pure ()) _ _ s1
    refine wpAny_pure ?_
    have G1 := G.eff ee hlo hbl
    refine st_loc (by first | rfl | decide +kernel) G1.ns fun s2 hn2 sb ho hg => ?_
    have G2 := G1.set hbl (by decide) (by decide) hn2 sb hg
    refine seg_execs_cons ?_
    obtain ⟨t1, hf1⟩ := hf
    have hrl1 := hrl row List.mem_cons_self
    have hf2 : (fun y => if y = ("rest" : Str) then some (.ref T) else m y) "first" = some (.int (f : Nat) t1) := hf1
    obtain ⟨n', hn'⟩ : ∃ n', n = n' + 1 := ⟨rem.length + tail.length, by rw [hn, List.length_cons]; omega⟩
    subst hn'
    have hTlo : lo < T := Nat.lt_of_lt_of_le hlo hT
    have ht2 : TupAt s2.heap T row := by
      obtain ⟨us, ru, o, ho, r⟩ := ht
      exact ⟨us, ru, o, sb.extBut T o (Nat.ne_of_gt hTlo) ho, r⟩
    refine seg_Expr_Yield hsp rfl hgu ?_ (by first | rfl | decide +kernel) (by first | rfl | decide +kernel)
    rw [hov]
    refine ev_cat (by first | rfl | decide +kernel) (by first | rfl | decide +kernel) G2.ns hf2 rfl ht2 (fun e => by rw [e] at hrl1; exact absurd hrl1.symm (by show kk ≠ 0; omega)) (by rw [hrl1]; exact line_of (by omega)) fun U s3 k3 hU hUt => ?_
    intro kap hkap
    have G3 := G2.kt k3
    have he1 : Eff lo aa s₀ s3 := (he.trans (ee.mono (Nat.le_of_lt hlo) haa2)).trans ((eff_set haa G1.bare sb ho hg).trans (k3.eff G2.bare))
    have hnl : rem.length + tail.length = n' := by simp only [List.length_cons] at hn; omega
    refine ⟨done0, f :: row, rem.map (f :: ·) ++ tail, U, hrows, ?_, rfl, Nat.le_trans (Nat.le_of_lt G2.ns.lt) hU, hUt, he1, fun s4 k4 => hkap .none s4 ?_⟩
    · rw [List.length_append, List.length_map]; exact hnl
    · show Seg _ _ _ _ _ _ _ _ _ _
      refine seg_execs_nil ?_
      have G4 := G3.slp k4
      have hm1 : Slp base lo' g' s1 s4 := ((slp_set hlo hbl G1.bare sb ho hg).trans (k3.slp G2.bare)).trans (k4.mono (Nat.le_of_lt hlo) (Nat.le_of_lt hgg))
      have hgk : ∀ x, s1.gens[g']? = some x → asleep x = true → s4.gens[g']? = some x := fun x q1 q2 => k4.slp g' x hgg (by rw [k3.gens, hg]; exact q1) q2
      have hgen4 : s4.heap.IsGen ad g' := by
        obtain ⟨o, nm, qn, q1, q2⟩ := hgen
        have hne : ad ≠ lo := Nat.ne_of_gt (Nat.lt_of_lt_of_le hlo had)
        exact ⟨o, nm, qn, k4.keep ad o (Nat.le_trans (Nat.le_of_lt hlo) had) (fun v z => by rw [q2.2.1] at z; cases z) (k3.keep ad o (sb.extBut ad o hne (ee.keep ad o (.inr rfl) q1))), q2⟩
      refine seg_again rfl (ih (done' ++ [row]) n' (done0 ++ [f :: row]) s4 s4 _ (fun r hr => hrl r (List.mem_cons_of_mem _ hr)) (by rw [hr]; simp) hnl.symm (by rw [hrows]; simp) G4 ⟨t1, hf2⟩ hgen4 (hs.ready hm1 hgk) ⟨fun _ _ _ q => q, rfl, G4.bare, Nat.le_refl _⟩ ?_)
      refine hF s s4 (fun b o h1 h2 h3 h4 q => ?_) hFs
      exact k4.keep b o h1 h4 (k3.keep b o (sb.extBut b o h2 (ee.keep b o (.inl h3) q)))
end
end K72

-- K72Rows4
set_option Elab.async false
set_option linter.all false
set_option maxRecDepth 100000
set_option maxHeartbeats 2000000
/-! votes.py: rows_with_sum, the def. -/
namespace K72
open PySem PySem.Spec PyProof.Rows L2 GenW
section
variable {P : Program} {w : World} {K : PySem.W.Frag} {mg : Str → Option Value} {base : Heap} {cdv : Value} {lo g k a : Nat}
/-- what a call gives: a generator that stands ready -/
def RMade (P : Program) (w : World) (base : Heap) (k a : Nat) (s : Shared) (u : Value) (s' : Shared) : Prop :=
  ∃ ad, u = .ref ad ∧ s.heap.objs.size < ad ∧ s'.heap.IsGen ad s.gens.size ∧ s.gens.size < s'.gens.size ∧ (∀ b o, s.heap.get? b = some o → s'.heap.get? b = some o) ∧ s'.os = s.os ∧ AllBare s'.gens ∧ (∀ (i : Nat) (x : GenState), s.gens[i]? = some x → s'.gens[i]? = some x) ∧
    ∀ B, Room (3 * k) B → RReady (model P w) B base s.heap.objs.size ad s.gens.size (rowsN k a) (rowsN k a).length s'
def RCall (P : Program) (w : World) (K : PySem.W.Frag) (base : Heap) (k : Nat) : Prop := ∀ (a : Nat) (A : Around) (s : Shared) (t u : Tok) (E : Value → Shared → Prop), a < 1000 → Room (3 * k) A → (∀ b o, base.get? b = some o → s.heap.get? b = some o) → base.objs.size ≤ s.heap.objs.size → AllBare s.gens →
  wpAny (model P w) A (call (.ref (He.ga K "rows_with_sum")) [.int (k : Nat) t, .int (a : Nat) u]) (RMade P w base k a s) E s
theorem RMade.slp {s s' : Shared} {u : Value} (h : RMade P w base k a s u s') {lo g : Nat} : Slp base lo g s s' := by
  obtain ⟨ad, _, _, _, h1, h2, h3, h4, h5, _⟩ := h
  exact ⟨fun b o _ _ q => h2 b o q, fun b o _ q => h2 b o q, h3, h4, Nat.le_of_lt h1, fun i x _ q _ => h5 i x q⟩
theorem RMade.eff {s s' : Shared} {u : Value} (h : RMade P w base k a s u s') {lo ad : Nat} : Eff lo ad s s' := by
  obtain ⟨ad, _, _, _, h1, h2, h3, h4, h5, _⟩ := h
  exact ⟨fun b o _ q => h2 b o q, h3, h4, Nat.le_of_lt h1⟩
/-- for first in range(amount + 1): for rest in ..: yield .. -/
theorem seg_outer (T : Ft K mg) (M : Mod K mg base) {B A' : Around} {fs : List Frame} {it aa : Nat} {pf : Pos} {q1 q2 q3 q4 q5 q6 q7 q8 : Pos} {n1 : Nat} {p0 p1 p2 p3 p4 p5 p6 p7 : Pos} {n0 : Nat} {rows : List (List Nat)} (hbl : base.objs.size ≤ lo) (haa : lo < aa) (hai : aa < it) (hk9 : k + 1 < 1000) (ha9 : a < 1000)
    (hov : B.over (.forLoop (.Name "first" pf) (.ref it) [.For (.Name "rest" p1) (.Call (.Name "rows_with_sum" q1) [.BinOp (.Name "length" q2) .Sub (.Constant (.int 1) n1 q3) q4, .BinOp (.Name "amount" q5) .Sub (.Name "first" q6) q7] [] q8)
        [.Expr (.Yield (some (.BinOp (.Tuple [.Name "first" p2] n0 p3) .Add (.Name "rest" p4) p5)) p6) p7] [] p0] [] (gEnv K cdv lo)) fs = A') (hsp : splitAtGen fs = none) (hgu : fs.any Frame.guarded = false)
    (hroom : Room (3 * k + 5) A') (hcall : RCall P w K base (k + 1))
    (cont : ∀ s₀ s m, GLi base lo g (k + 2) a m s → Eff lo aa s₀ s → Seg (model P w) B (REndR lo aa) (YRow base lo aa g rows) 0 s₀ (.block [] (gEnv K cdv lo)) (leafOf (.ok .next)) fs s) :
    ∀ (j i n : Nat) (done0 : List (List Nat)) (s₀ s : Shared) (m : Str → Option Value), i + j = a + 1 → n = (restFrom k a i j).length → rows = done0 ++ restFrom k a i j → GLi base lo g (k + 2) a m s → IsRangeIter s.heap it (i : Nat) (j : Nat) 1 → Eff lo aa s₀ s →
      Seg (model P w) B (REndR lo aa) (YRow base lo aa g rows) n s₀ (.forLoop (.Name "first" pf) (.ref it) [.For (.Name "rest" p1) (.Call (.Name "rows_with_sum" q1) [.BinOp (.Name "length" q2) .Sub (.Constant (.int 1) n1 q3) q4, .BinOp (.Name "amount" q5) .Sub (.Name "first" q6) q7] [] q8)
        [.Expr (.Yield (some (.BinOp (.Tuple [.Name "first" p2] n0 p3) .Add (.Name "rest" p4) p5)) p6) p7] [] p0] [] (gEnv K cdv lo))
        ((model P w).den (.forLoop (.Name "first" pf) (.ref it) [.For (.Name "rest" p1) (.Call (.Name "rows_with_sum" q1) [.BinOp (.Name "length" q2) .Sub (.Constant (.int 1) n1 q3) q4, .BinOp (.Name "amount" q5) .Sub (.Name "first" q6) q7] [] q8)
        [.Expr (.Yield (some (.BinOp (.Tuple [.Name "first" p2] n0 p3) .Add (.Name "rest" p4) p5)) p6) p7] [] p0] [] (gEnv K cdv lo))) fs s := by
  intro j
  induction j with
  | zero =>
    intro i n done0 s₀ s m hij hn hrows G hit he
    refine seg_forLoop ?_
    rw [hov]
    have e0 : n = 0 := hn
    subst e0
    refine wpAny_pyNext_range_end hroom.hd hit (by decide) fun h' hx => ?_
    have k1 : Eff lo aa s { s with heap := h' } := ⟨fun b o hb q => hx b o (hb.elim (fun e => Nat.ne_of_lt (Nat.lt_trans (Nat.lt_trans e haa) hai)) fun e => by rw [e]; exact Nat.ne_of_lt hai) q, rfl, G.bare, Nat.le_refl _⟩
    exact cont s₀ _ m ⟨Ns_at G.ns fun o e => hx lo o (Nat.ne_of_lt (Nat.lt_trans haa hai)) e, G.len, G.am, fun b o e => k1.keep b o (.inl (Nat.lt_of_lt_of_le (Heap.lt_size e) hbl)) (G.bk b o e), G.gs, G.bare⟩ (he.trans k1)
  | succ j ih =>
    intro i n done0 s₀ s m hij hn hrows G hit he
    refine seg_forLoop ?_
    rw [hov]
    refine wpAny_pyNext_range_item hit (by show (0 : Int) < ((j + 1 : Nat) : Int); omega) fun h' hit' hs' => ?_
    show wpAny _ _ (pure ()) _ _ _
    refine wpAny_pure ?_
    have hli : lo < it := Nat.lt_trans haa hai
    have k1 : Eff lo aa s { s with heap := h', toks := s.toks + 1 } := ⟨fun b o hb q => hs'.extBut b o (hb.elim (fun e => Nat.ne_of_lt (Nat.lt_trans e hli)) fun e => by rw [e]; exact Nat.ne_of_lt hai) q, rfl, G.bare, Nat.le_refl _⟩
    have G1 : GLi base lo g (k + 2) a m { s with heap := h', toks := s.toks + 1 } := ⟨Ns_at G.ns fun o e => hs'.extBut lo o (Nat.ne_of_lt hli) e, G.len, G.am, fun b o e => k1.keep b o (.inl (Nat.lt_of_lt_of_le (Heap.lt_size e) hbl)) (G.bk b o e), G.gs, G.bare⟩
    refine st_loc (by first | rfl | decide +kernel) G1.ns fun s2 hn2 sb ho hg => ?_
    have G2 := G1.set hbl (by decide) (by decide) hn2 sb hg
    have he2 : Eff lo aa s₀ s2 := (he.trans k1).trans (eff_set haa G1.bare sb ho hg)
    have it2 : IsRangeIter s2.heap it ((i + 1 : Nat) : Int) (j : Nat) 1 := by
      have q := sb.extBut it _ (Nat.ne_of_gt hli) hit'
      have e1 : ((i + 1 : Nat) : Int) = (i : Int) + 1 := by push_cast; rfl
      have e2 : ((j : Nat) : Int) = ((j + 1 : Nat) : Int) - 1 := by push_cast; omega
      show IsRangeIter s2.heap it _ _ 1
      rw [e1, e2]
      exact q
    refine seg_execs_cons ?_
    refine seg_For ?_
    rw [hov]
    refine wpAny_Call_Name_kw (base_glob M G2.bk (by first | rfl | decide +kernel) T.g_rows_with_sum ?_)
    obtain ⟨fd, FD⟩ := T.f_rows_with_sum
    refine PySem.W.callWith_K (h₀ := base) M.kin FD.kp ?_
    obtain ⟨tl, hl⟩ := G2.len
    obtain ⟨ta, hta⟩ := G2.am
    have hfst : (fun y => if y = ("first" : Str) then some (Value.int (i : Nat) s.toks) else m y) "first" = some (.int (i : Nat) s.toks) := rfl
    show wpAny _ _ (spliced ((false, eval (.BinOp (.Name "length" q2) .Sub (.Constant (.int 1) n1 q3) q4) (gEnv K cdv lo)) :: (false, eval (.BinOp (.Name "amount" q5) .Sub (.Name "first" q6) q7) (gEnv K cdv lo)) :: [])) _ _ _
    refine Calls.spliced_cons (ev_subc (by first | rfl | decide +kernel) G2.ns hl fun t3 s3 k3 => ?_)
    have G3 := G2.kt k3
    refine Calls.spliced_cons (ev_sub (by first | rfl | decide +kernel) (by first | rfl | decide +kernel) G3.ns hta hfst fun t4 s4 k4 => ?_)
    have G4 := G3.kt k4
    refine Calls.spliced_nil ⟨M.kin.keeps G4.bk, ?_⟩
    have e1 : (((k + 2 : Nat) : Int) - 1) = ((k + 1 : Nat) : Int) := by push_cast; omega
    have e2 : ((a : Nat) : Int) - ((i : Nat) : Int) = ((a - i : Nat) : Int) := by omega
    show wpAny _ _ (call _ ([] ++ [_, _])) _ _ _
    rw [e1, e2, List.nil_append]
    refine wpAny_mono (hcall (a - i) A' s4 t3 t4 (fun _ _ => False) (by omega) (hroom.mono (by omega)) G4.bk (Nat.le_trans hbl (Nat.le_of_lt G4.ns.lt)) G4.bare) (fun u s5 h5 => ?_) fun _ _ x => x.elim
    have G5 := G4.slp h5.slp
    have he5 : Eff lo aa s₀ s5 := he2.trans (((k3.trans k4).eff G2.bare).trans h5.eff)
    obtain ⟨ad, rfl, h6, h7, h8, h9, h10, h11, h12, h13⟩ := h5
    refine wpAny_pyIter_gen h7 fun p => ?_
    have hlo4 : lo < s4.heap.objs.size := G4.ns.lt
    have it4 : IsRangeIter s4.heap it ((i + 1 : Nat) : Int) (j : Nat) 1 := k4.keep _ _ (k3.keep _ _ it2)
    have hit4 : it < s4.heap.objs.size := Heap.lt_size it4
    have hnl : n = (rowsN (k + 1) (a - i)).length + (restFrom k a (i + 1) j).length := by rw [hn, restFrom_succ, List.length_append, List.length_map]
    refine seg_inner (A' := A') (aa := aa) (kk := k + 1) (f := i) (tail := restFrom k a (i + 1) j) (F := fun s => IsRangeIter s.heap it ((i + 1 : Nat) : Int) (j : Nat) 1) hbl haa (Nat.lt_trans hai hit4) M ((over_loop rfl rfl).trans hov)
      (by show (splitAtGen fs).map _ = none; rw [hsp]; rfl) (by show (_ || fs.any Frame.guarded) = false; rw [hgu]; rfl) hroom.hd hroom.depth hlo4 G4.gs (Nat.le_of_lt h6) (by omega) hk9 (fun s s' hks q => hks it _ (Nat.le_of_lt hli) (Nat.ne_of_gt hli) hit4 (fun v z => by cases z) q) ?_
      (rowsN (k + 1) (a - i)) [] n done0 s₀ s5 _ (fun r hr => rowsN_length hr) rfl hnl (by rw [hrows, restFrom_succ]) G5 ⟨_, hfst⟩ h7 (h13 A'.in1 (Room.in1 (hroom.mono (by omega)))) he5 (h9 _ _ it4)
    intro n' s₀' s6 m6 hn6 G6 he6 hF6
    refine seg_leaf (.ok .next) ?_
    show Seg _ _ _ _ _ _ _ ((execs [] (gEnv K cdv lo)).wrap _ _ _ _) _ _
    refine seg_execs_nil ?_
    refine seg_again rfl (ih (i + 1) n' (done0 ++ (rowsN (k + 1) (a - i)).map (i :: ·)) s₀' s6 m6 (by omega) hn6 (by rw [hrows, restFrom_succ, List.append_assoc]) G6 hF6 he6)
end
end K72

-- K72Rows5
set_option Elab.async false
set_option linter.all false
set_option maxRecDepth 100000
set_option maxHeartbeats 2000000
/-! votes.py: rows_with_sum, the call. -/
namespace K72
open PySem PySem.Spec PyProof.Rows L2 GenW
section
variable {P : Program} {w : World} {K : PySem.W.Frag} {mg : Str → Option Value} {base : Heap}
theorem rows_body (T : Ft K mg) (M : Mod K mg base) {cdv : Value} {lo g aa k a : Nat} {B : Around} {s : Shared} {m : Str → Option Value} (hbl : base.objs.size ≤ lo) (haa : lo < aa) (hk9 : k + 1 < 1000) (ha9 : a < 1000) (hroom : Room (3 * k + 3) B) (hcall : ∀ j, j + 1 = k → RCall P w K base k)
    (G : GLi base lo g (k + 1) a m s) (has : aa < s.heap.objs.size) :
    Seg (model P w) B (REndR lo aa) (YRow base lo aa g (rowsN (k + 1) a)) (rowsN (k + 1) a).length s (.func (defBody s_rows_with_sum) (gEnv K cdv lo)) ((model P w).den (.func (defBody s_rows_with_sum) (gEnv K cdv lo))) [] s := by
  have here : ∀ {s : Shared}, AllBare s.gens → Eff lo aa s s := fun hb => ⟨fun _ _ _ q => q, rfl, hb, Nat.le_refl _⟩
  refine seg_func ?_
  refine seg_execs_cons ?_
  refine seg_If ?_
  rw [over_func]
  obtain ⟨tl, hl⟩ := G.len
  obtain ⟨ta, hta⟩ := G.am
  refine wpAny_isTrue_Compare1 (ev_loc (by first | rfl | decide +kernel) G.ns hl (wpAny_Constant_int (eq_int (wpAny_truthy_bool ?_))))
  have k1 : Kt s { s with toks := s.toks + 1 } := Kt.tok
  have G1 := G.kt k1
  cases k with
  | zero =>
    have eb : (((0 + 1 : Nat) : Int) == 1) = true := by decide
    rw [eb]
    refine seg_execs_cons ?_
    refine seg_Expr_Yield rfl rfl rfl ?_ (by first | rfl | decide +kernel) (by first | rfl | decide +kernel)
    rw [over_func]
    refine ev_one (by first | rfl | decide +kernel) G1.ns hta fun s2 k2 i2 => ?_
    intro kap hkap
    have G2 := G1.kt k2
    refine ⟨[], [a], [], _, rfl, rfl, rfl, Nat.le_of_lt G1.ns.lt, ⟨[_], .cons ⟨_, rfl⟩ .nil, i2⟩, (k1.trans k2).eff G.bare, fun s3 k3 => hkap .none s3 ?_⟩
    show Seg _ _ _ _ _ _ _ _ _ _
    refine seg_execs_nil ?_
    exact seg_end (.ok (.ret .none)) ⟨.inl rfl, rfl, here (G2.slp k3).bare⟩
  | succ k =>
    have eb : (((k + 1 + 1 : Nat) : Int) == 1) = false := by
      rw [beq_eq_false_iff_ne]
      omega
    rw [eb]
    refine seg_execs_cons ?_
    refine seg_For ?_
    rw [over_func]
    refine wpAny_Call_Name_kw (base_blt M G1.bk (by first | rfl | decide +kernel) T.z_range boot_range ?_)
    refine PyProof.Rows.callWith_type1 ?_ rfl rfl
    show wpAny _ _ (spliced ((false, eval (.BinOp _ _ _ _) (gEnv K cdv lo)) :: [])) _ _ _
    refine Calls.spliced_cons (ev_addc (by first | rfl | decide +kernel) G1.ns hta fun t2 s2 k2 => ?_)
    refine Calls.spliced_nil ?_
    have e1 : ((a : Nat) : Int) + 1 = ((a + 1 : Nat) : Int) := by push_cast; rfl
    rw [e1]
    have hsm : Builtin.Range.small 0 ((a + 1 : Nat) : Int) 1 = true := small_one (by decide) (by decide) (by omega) (by omega)
    refine call_range_1 (wpAny_pyIter_range (IsRange.new _ _ _ _ _ _ _) hsm fun p => ?_)
    have hrs : Builtin.Range.rangeSize 0 ((a + 1 : Nat) : Int) 1 = ((a + 1 : Nat) : Int) := by
      rw [rangeSize_one, if_pos (by omega)]; omega
    rw [hrs]
    have G2 := G1.kt k2
    have kk : Kt s2 _ := (Kt.push (s := s2) (o := { cls := .type "range", data := .fields #[.int 0 s2.toks, .int ((a + 1 : Nat) : Int) t2, .int 1 (s2.toks + 1)] }) (t := s2.toks + 1 + 1)).trans
      (Kt.push (s := { s2 with heap := s2.heap.push { cls := .type "range", data := .fields #[.int 0 s2.toks, .int ((a + 1 : Nat) : Int) t2, .int 1 (s2.toks + 1)] }, toks := s2.toks + 1 + 1 }) (o := { cls := .type "range_iterator", data := .fields #[rawInt 0, rawInt ((a + 1 : Nat) : Int), rawInt 1] }) (t := s2.toks + 1 + 1))
    have G3 := G2.kt kk
    have hsz : aa < (s2.heap.push { cls := .type "range", data := .fields #[.int 0 s2.toks, .int ((a + 1 : Nat) : Int) t2, .int 1 (s2.toks + 1)] }).objs.size := by
      rw [Heap.size_push]
      have := (k1.trans k2).hsz
      omega
    refine seg_outer (A' := B.deeper (gEnv K cdv lo)) T M hbl haa hsz (by omega) ha9 ((over_loop rfl rfl).trans over_func) rfl rfl ((hroom.mono (by omega)).deeper _) (hcall k rfl) (fun s₀ s4 m4 G4 he4 => ?_)
      (a + 1) 0 _ [] s _ m (by omega) rfl rfl G3 (Heap.get?_push_size _ rfl) (((k1.trans k2).trans kk).eff G.bare)
    refine seg_leaf (.ok .next) ?_
    show Seg _ _ _ _ _ _ _ ((execs [] (gEnv K cdv lo)).wrap _ _ _ _) _ _
    refine seg_execs_nil ?_
    show Seg _ _ _ _ _ _ _ ((execs [] (gEnv K cdv lo)).wrap _ _ _ _) _ _
    refine seg_execs_nil ?_
    exact seg_end (.ok (.ret .none)) ⟨.inl rfl, rfl, he4⟩
end
end K72

-- K72Rows6
set_option Elab.async false
set_option linter.all false
set_option maxRecDepth 100000
set_option maxHeartbeats 2000000
/-! votes.py: rows_with_sum, its calls. -/
namespace K72
open PySem PySem.Spec PyProof.Rows L2 GenW
section
variable {P : Program} {w : World} {K : PySem.W.Frag} {mg : Str → Option Value} {base : Heap}
theorem rows_step (T : Ft K mg) (M : Mod K mg base) {k : Nat} (hk9 : k + 1 < 1000) (hcall : ∀ j, j + 1 = k → RCall P w K base k) : RCall P w K base (k + 1) := by
  intro a A s t u E ha9 hroom hbk hbl hbare
  obtain ⟨fd, FD⟩ := T.f_rows_with_sum
  have hb : Binds K fd ["length", "amount"] [] := FD.bindsN fun _ _ _ _ _ _ us hl => match us, hl with | [_, _], _ => rfl
  obtain ⟨oc, od, dV, kV, doc, pm, an, cdv, ct, osl, rfl, lk, hcd, hdV, _⟩ := FD.ex
  have KX : K.In s.heap := M.kin.keeps hbk
  have main : codeAny (model P w) A (.call (.ref (He.ga K "rows_with_sum")) ⟨[Value.int ((k + 1 : Nat) : Int) t, Value.int (a : Nat) u], []⟩) (fun r s' => match r with | .ok (.ret v) => RMade P w base (k + 1) a s v s' | _ => False) s := by
    refine codeAny_call_generator hroom.depth (KX _ _ lk) rfl (by first | rfl | decide +kernel) (by first | rfl | decide +kernel) rfl (PySem.W.codeRec_of KX hcd) (hb s [Value.int ((k + 1 : Nat) : Int) t, Value.int (a : Nat) u] KX rfl _ _ _ _ ?_)
    refine wpAny_newFunctionEnv_cells (by first | rfl | decide +kernel) (fun x hx => .inl ?_) fun env he s1 x => ?_
    · have : x.1 = "length" ∨ x.1 = "amount" := by
        rcases List.mem_cons.mp hx with e | e
        · rw [e]; exact .inl rfl
        · rcases List.mem_cons.mp e with e | e
          · rw [e]; exact .inr rfl
          · cases e
      rcases this with e | e <;> rw [e] <;> (first | rfl | decide +kernel)
    subst he
    have lim : s.heap.NoLimit := M.nolimit.keeps hbk
    have lim1 : s1.heap.NoLimit := lim.keeps x.toInCall.keep
    refine ⟨lim1, ?_⟩
    obtain ⟨h1, tk, es1, hk1⟩ := x.done
    have os1 : s1.os = s.os := by rw [es1]
    have gen1 : s1.gens = s.gens := by rw [es1]
    have lt1 : s.heap.objs.size < s1.heap.objs.size := x.toInCall.ns.lt
    have kp1 : ∀ b o, s.heap.get? b = some o → s1.heap.get? b = some o := x.toInCall.keep
    have ns1 := x.toInCall.ns
    have made : ∀ (go : Obj) (nm qn : Value) (tk2 : Nat), go.cls = .type "generator" → go.data = .fields #[.int s1.gens.size 0, nm, qn] → go.slots = #[] → (∀ h : Heap, (h.push go).get? h.objs.size = some go) →
        RMade P w base (k + 1) a s (.ref s1.heap.objs.size) { s1 with gens := s1.gens.push (.fresh (.func (defBody s_rows_with_sum) (gEnv K cdv s.heap.objs.size))), toks := tk2, heap := s1.heap.push go } := by
      intro go nm qn tk2 hgc hgd hgs hgp
      refine ⟨s1.heap.objs.size, rfl, lt1, ⟨go, nm, qn, hgp _, hgc, by rw [hgd, gen1], hgs⟩, ?_, fun b o q => Heap.get?_push_of_some _ (kp1 b o q), os1, AllBare.push (by rw [gen1]; exact hbare) rfl, fun i y q => ?_, fun B hB => ?_⟩
      · show _ < (s1.gens.push _).size
        rw [Array.size_push, gen1]; exact Nat.lt_succ_self _
      · show (s1.gens.push _)[i]? = some y
        have hi := (Array.getElem?_eq_some_iff.mp q).1
        rw [gen1, Array.getElem?_push]
        rw [if_neg (Nat.ne_of_lt hi)]
        exact q
      · refine ⟨.fresh (.func (defBody s_rows_with_sum) (gEnv K cdv s.heap.objs.size)), ?_, rfl, ?_⟩
        · show (s1.gens.push _)[s.gens.size]? = _
          rw [← gen1]; exact Array.getElem?_push_size ..
        · refine rows_body (m := bindL (gEnv K cdv s.heap.objs.size).kindOf ((["length", "amount"] : List Str).zip [Value.int ((k + 1 : Nat) : Int) t, Value.int (a : Nat) u]) fun _ => none) T M hbl lt1 hk9 ha9 (hB.mono (by omega)) hcall ⟨?_, ⟨t, ?_⟩, ⟨u, ?_⟩, fun b o q => Heap.get?_push_of_some _ (kp1 b o (hbk b o q)), ?_, ?_⟩ ?_
          · exact Ns_at ns1 fun o q => Heap.get?_push_of_some _ q
          · exact bindL_get (kindOf := (gEnv K cdv s.heap.objs.size).kindOf) (P := (["length", "amount"] : List Str)) (vs := [Value.int ((k + 1 : Nat) : Int) t, Value.int (a : Nat) u]) (i := 0) (by decide) rfl rfl (by first | rfl | decide +kernel)
          · exact bindL_get (kindOf := (gEnv K cdv s.heap.objs.size).kindOf) (P := (["length", "amount"] : List Str)) (vs := [Value.int ((k + 1 : Nat) : Int) t, Value.int (a : Nat) u]) (i := 1) (by decide) rfl rfl (by first | rfl | decide +kernel)
          · rw [setGen_size]
            show _ < (s1.gens.push _).size
            rw [Array.size_push, gen1]; exact Nat.lt_succ_self _
          · exact allBare_setGen (AllBare.push (by rw [gen1]; exact hbare) rfl) rfl
          · show _ < (s1.heap.push go).objs.size
            rw [Heap.size_push]; exact Nat.lt_succ_self _
    exact made _ _ _ _ rfl rfl rfl fun h => Heap.get?_push_size _ rfl
  refine wpAny_call (codeAny_mono main fun r s' hq => ?_)
  cases r with
  | error e => exact False.elim hq
  | ok fl =>
    cases fl with
    | ret u => exact hq
    | next => exact False.elim hq
    | brk => exact False.elim hq
    | cont => exact False.elim hq
theorem rows_call (T : Ft K mg) (M : Mod K mg base) : ∀ k, k + 1 < 1000 → RCall P w K base (k + 1)
  | 0, h => rows_step T M h fun j e => by cases e
  | k + 1, h => rows_step T M h fun j e => rows_call T M k (by omega)
end
end K72

-- K72RowsFor
set_option Elab.async false
set_option linter.all false
set_option maxRecDepth 100000
set_option maxHeartbeats 2000000
/-! for .. in rows_with_sum(..) in a def's body: the dicts with tuple keys are frozen while the loop runs. -/
namespace K72
open PySem PySem.Spec PyProof.Rows L2 GenW
def isT : HO → Bool
  | .dT _ => true
  | .frz _ (.dT _) => true
  | _ => false
/-- the heap but the dicts with tuple keys -/
def drT (H : Hp) : Hp := fun b => match H b with
  | some u => if isT u = true then none else some u
  | none => none
theorem drT_some {H : Hp} {b : Addr} {u : HO} : drT H b = some u ↔ H b = some u ∧ isT u = false := by
  unfold drT
  cases H b with
  | none => simp
  | some v =>
    cases q : isT v with
    | true => simp [q]; intro e; subst e; exact q
    | false => simp [q]; intro e; subst e; exact q
theorem rd_drT {H : Hp} {a : Addr} {u : HO} (h : Rd H a u) (hu : ∀ kvs, u ≠ .dT kvs) (hu2 : isT u = false) : Rd (drT H) a u := by
  rcases h with h | ⟨o, h⟩
  · exact .inl (drT_some.mpr ⟨h, hu2⟩)
  · refine .inr ⟨o, drT_some.mpr ⟨h, ?_⟩⟩
    cases u <;> first | rfl | exact absurd rfl (hu _)
theorem sqT_drT {K : PySem.W.Frag} {H : Hp} {a : Addr} {xs : List V} (h : SqT K H a xs) : SqT K (drT H) a xs := h.imp (fun h => rd_drT h (fun _ e => by cases e) rfl) id
theorem lls_drT {K : PySem.W.Frag} {H : Hp} {as : List Addr} {ls : List (List Nat)} (h : LLs K H as ls) : LLs K (drT H) as ls := Pd.imp (fun _ _ x => sqT_drT x) h
theorem fam_drT {K : PySem.W.Frag} {H : Hp} {x : Addr} {n : Nat} {ls : List (List Nat)} (h : FamAt K H x n ls) : FamAt K (drT H) x n ls :=
  let ⟨dx, t, as, h1, h2, h3⟩ := h
  ⟨dx, t, as, drT_some.mpr ⟨h1, rfl⟩, sqT_drT h2, lls_drT h3⟩
theorem votes_drT {K : PySem.W.Frag} {H : Hp} {x : Addr} {q : Nat} {vs : List Nat} (h : VotesAt K H x q vs) : VotesAt K (drT H) x q vs :=
  let ⟨dx, t, h1, h2⟩ := h
  ⟨dx, t, drT_some.mpr ⟨h1, rfl⟩, sqT_drT h2⟩
/-- frozen as they stand in h -/
def fzT (H : Hp) (h : Heap) : Hp := fun b => match H b with
  | some (.dT kvs) => (h.get? b).map fun o => .frz o (.dT kvs)
  | u => u
theorem fzT_ne {H : Hp} {h : Heap} {b : Addr} (hn : ∀ kvs, H b ≠ some (.dT kvs)) : fzT H h b = H b := by
  unfold fzT
  split
  · rename_i kvs e; exact absurd e (hn kvs)
  · rfl
theorem fzT_dT {H : Hp} {h : Heap} {b : Addr} {kvs : List (List Key × V)} {o : Obj} (e : H b = some (.dT kvs)) (ho : h.get? b = some o) : fzT H h b = some (.frz o (.dT kvs)) := by
  unfold fzT
  rw [e]
  show (h.get? b).map _ = _
  rw [ho]; rfl
theorem fzT_none {H : Hp} {h : Heap} {b : Addr} (e : H b = none) : fzT H h b = none := by rw [fzT_ne (fun _ q => by rw [e] at q; cases q)]; exact e
section
variable {P : Program} {w : World} {H H' : Hp} {h h' : Heap}
theorem objOk_at {a : Addr} {o : HO} (x : ObjOk P w H h a o) : ∃ ob, h.get? a = some ob := by
  have := x.lt
  cases o with
  | lst xs => obtain ⟨_, _, _, _, e⟩ := x; exact ⟨_, e⟩
  | tup xs => obtain ⟨_, _, _, ob, e, _⟩ := x; exact ⟨_, e⟩
  | dK kvs => obtain ⟨_, _, _, _, o, _, _, e, _⟩ := x; exact ⟨_, e⟩
  | dT kvs => obtain ⟨_, _, _, _, o, _, _, e, _⟩ := x; exact ⟨_, e⟩
  | set S n => obtain ⟨o, _, _, _, e, _⟩ := x; exact ⟨_, e⟩
  | ins C dx fs => obtain ⟨_, _, _, e, _⟩ := x; exact ⟨_, e⟩
  | own y => exact x
  | xd fs => obtain ⟨_, ⟨_, _, _, e, _⟩, _⟩ := x; exact ⟨_, e⟩
  | rng lo hi => obtain ⟨_, _, _, e⟩ := x; exact ⟨_, e⟩
  | frz ob u => exact ⟨_, x.1⟩
  | tbl ps => exact ⟨_, x⟩
  | met f y => exact ⟨_, x⟩
  | ext φ => exact x.2.1
theorem hok_fzT (x : HOk P w H h) : HOk P w (fzT H h) h := fun a u e => by
  have ho : ∀ c b, H b = some (.own c) → fzT H h b = some (.own c) := fun c b q => by rw [fzT_ne (fun _ z => by rw [q] at z; cases z)]; exact q
  have ht : ∀ b xs, H b = some (.tup xs) → fzT H h b = some (.tup xs) := fun b xs q => by rw [fzT_ne (fun _ z => by rw [q] at z; cases z)]; exact q
  by_cases hd : ∃ kvs, H a = some (.dT kvs)
  · obtain ⟨kvs, hd⟩ := hd
    obtain ⟨ob, hob⟩ := objOk_at (x a _ hd)
    rw [fzT_dT hd hob] at e
    cases e
    exact ⟨hob, (x a _ hd).stay (fun _ _ _ q => q) (ho a) ht⟩
  · rw [fzT_ne (fun kvs z => hd ⟨kvs, z⟩)] at e
    exact (x a u e).stay (fun _ _ _ q => q) (ho a) ht
/-- a description by the old heap's references and the new one's objects -/
theorem objOk_mix {a : Addr} : ∀ {u : HO}, ObjOk P w H h a u → ObjOk P w H' h' a u → ((∃ ob, h.get? a = some ob ∧ h'.get? a = some ob) ∨ ∀ kvs, u ≠ .dT kvs) → ObjOk P w H h' a u := by
  intro u
  induction u with
  | dT kvs =>
    intro x y e
    rcases e with ⟨ob, e1, e2⟩ | e
    · obtain ⟨z, y, xs, r, o, es, ep, q, c⟩ := x
      rw [e1] at q; cases q
      exact ⟨z, y, xs, r, _, es, ep, e2, c⟩
    · exact absurd rfl (e kvs)
  | ins C dx fs => intro x y _; exact ⟨x.1, y.2⟩
  | frz ob u ih => intro x y _; exact ⟨y.1, ih x.2 y.2 (.inl ⟨ob, x.1, y.1⟩)⟩
  | _ => intro x y _; exact y
end
section
variable {X : Cx} {pins : List (Addr × Obj)} {σ σ' : L2.St} {H H' : Hp} {s s' : Shared}
theorem Inv_gens {g : Array GenState} (I : Inv X pins σ H s) (hb : AllBare g) : Inv X pins σ H { s with gens := g } := ⟨I.ok, I.os, hb, I.base, I.loc, I.cell, I.free, I.freeC, I.pin, I.hok, I.len⟩
theorem Inv_hide {G : Nat → Bool} (I : Inv X pins σ H s) : Inv X pins σ H (hide G s) := Inv_gens I (allBare_hide.mpr I.bare)
theorem Inv_unhide {G : Nat → Bool} (I : Inv X pins σ H (hide G s)) : Inv X pins σ H s := ⟨I.ok, I.os, allBare_hide.mp I.bare, I.base, I.loc, I.cell, I.free, I.freeC, I.pin, I.hok, I.len⟩
/-- back to what was tracked (the frozen dicts thawed) -/
theorem Inv_back {s4 : Shared} (I : Inv X pins σ H s4) (J : Inv X pins σ' H' s') (e : ∀ a u, fzT H s4.heap a = some u → H' a = some u) : Inv X pins σ' H s' := by
  refine ⟨J.ok, J.os, J.bare, ⟨J.base.keep, J.base.slot, I.base.free, J.base.there, I.base.tups, I.base.frzs, I.base.tbls⟩, J.loc, J.cell, I.free, I.freeC, fun p hp => ?_, fun a u q => ?_, J.len⟩
  · have := J.pin p hp
    exact ⟨this.1, (I.pin p hp).2.1, this.2.2⟩
  · have x := I.hok a u q
    by_cases hd : ∃ kvs, u = .dT kvs
    · obtain ⟨kvs, rfl⟩ := hd
      obtain ⟨ob, hob⟩ := objOk_at x
      have h7 := J.hok a _ (e a _ (fzT_dT q hob))
      exact objOk_mix x h7.2 (.inl ⟨ob, hob, h7.1⟩)
    · refine objOk_mix x (J.hok a u (e a u ?_)) (.inr fun kvs z => hd ⟨kvs, z⟩)
      rw [fzT_ne (fun kvs z => hd ⟨kvs, by rw [q] at z; exact Option.some.inj z⟩)]; exact q
/-- thawed, the rest as it is -/
def thaw (H H' : Hp) : Hp := fun b => match H b with
  | some (.dT kvs) => some (.dT kvs)
  | _ => H' b
theorem thaw_dT {b : Addr} {kvs : List (List Key × V)} (e : H b = some (.dT kvs)) : thaw H H' b = some (.dT kvs) := by unfold thaw; rw [e]
theorem thaw_ne {b : Addr} (hn : ∀ kvs, H b ≠ some (.dT kvs)) : thaw H H' b = H' b := by
  unfold thaw
  split
  · rename_i kvs e; exact absurd e (hn kvs)
  · rfl
theorem Inv_thaw {s4 : Shared} (I : Inv X pins σ H s4) (J : Inv X pins σ' H' s') (e : ∀ a u, fzT H s4.heap a = some u → H' a = some u) : Inv X pins σ' (thaw H H') s' ∧ Same H (thaw H H') ∧ Same (drT H') (thaw H H') := by
  have fz : ∀ a kvs, H a = some (.dT kvs) → ∃ ob, H' a = some (.frz ob (.dT kvs)) := fun a kvs q => by
    obtain ⟨ob, hob⟩ := objOk_at (I.hok a _ q)
    exact ⟨ob, e a _ (fzT_dT q hob)⟩
  have keep : ∀ a u, H' a = some u → (∀ ob kvs, u ≠ .frz ob (.dT kvs)) → thaw H H' a = some u := fun a u q hn => by
    rw [thaw_ne fun kvs z => by obtain ⟨ob, z'⟩ := fz a kvs z; rw [q] at z'; exact hn ob kvs (Option.some.inj z')]
    exact q
  have none_ : ∀ b, H b = none → H' b = none → thaw H H' b = none := fun b h1 h2 => by rw [thaw_ne (fun kvs z => by rw [h1] at z; cases z)]; exact h2
  have noT : ∀ b, H' b = none → thaw H H' b = none := fun b h2 => by
    rw [thaw_ne fun kvs z => by obtain ⟨ob, z'⟩ := fz b kvs z; rw [h2] at z'; cases z']
    exact h2
  have frzK : ∀ b o u, H b = some (.frz o u) → thaw H H' b = some (.frz o u) := fun b o u q => by
    rw [thaw_ne (fun kvs z => by rw [q] at z; cases z)]
    exact e b _ (by rw [fzT_ne (fun _ z => by rw [q] at z; cases z)]; exact q)
  refine ⟨⟨J.ok, J.os, J.bare, ⟨J.base.keep, J.base.slot, fun b o h1 h2 h3 => noT b (J.base.free b o h1 h2 h3), J.base.there, fun b xs q => ?_, fun b o u q => frzK b o u (I.base.frzs b o u q), fun b ps q => ?_⟩, J.loc, J.cell, noT _ J.free, fun x c q => noT _ (J.freeC x c q), fun p hp => ?_, fun a u q => ?_, J.len⟩, fun a u q => ?_, fun a u q => ?_⟩
  · exact keep b _ (J.base.tups b xs q) fun _ _ z => by cases z
  · obtain ⟨more, z⟩ := J.base.tbls b ps q
    exact ⟨more, keep b _ z fun _ _ z => by cases z⟩
  · have := J.pin p hp
    exact ⟨this.1, noT _ this.2.1, this.2.2⟩
  · have ho : ∀ b c, H' b = some (.own c) → thaw H H' b = some (.own c) := fun b c q => keep b _ q fun _ _ z => by cases z
    have ht : ∀ b xs, H' b = some (.tup xs) → thaw H H' b = some (.tup xs) := fun b xs q => keep b _ q fun _ _ z => by cases z
    by_cases hd : ∃ kvs, H a = some (.dT kvs)
    · obtain ⟨kvs, hd⟩ := hd
      rw [thaw_dT hd] at q; cases q
      obtain ⟨ob, z⟩ := fz a kvs hd
      exact (J.hok a _ z).2.stay (fun _ _ _ r => r) (fun b => ho b a) ht
    · rw [thaw_ne fun kvs z => hd ⟨kvs, z⟩] at q
      exact (J.hok a u q).stay (fun _ _ _ r => r) (fun b => ho b a) ht
  · by_cases hd : ∃ kvs, u = .dT kvs
    · obtain ⟨kvs, rfl⟩ := hd; exact thaw_dT q
    · rw [thaw_ne fun kvs z => hd ⟨kvs, by rw [q] at z; exact Option.some.inj z⟩]
      exact e a u (by rw [fzT_ne fun kvs z => hd ⟨kvs, by rw [q] at z; exact Option.some.inj z⟩]; exact q)
  · obtain ⟨q1, q2⟩ := drT_some.mp q
    exact keep a u q1 fun ob kvs z => by rw [z] at q2; cases q2
end
end K72

-- K72RowsFor2
set_option Elab.async false
set_option linter.all false
set_option maxRecDepth 100000
set_option maxHeartbeats 2000000
/-! for .. in rows_with_sum(..): the rule. -/
namespace K72
open PySem PySem.Spec PyProof.Rows L2 GenW
def tRows (ta : TA) (g : TG) (tb : TS) : TS := fun D σ H => ta σ H fun vs H1 => ∃ (k a : Nat) (W : Nat → L2.St → Prop), vs = [.int (k : Nat), .int (a : Nat)] ∧ 1 ≤ k ∧ k ≤ 4 ∧ a < 1000 ∧ W 0 σ ∧ (∀ σ', W (rowsN k a).length σ' → D.nx σ' H1) ∧
  ∀ (i : Nat) (row : List Nat) (σ' : L2.St), (rowsN k a)[i]? = some row → W i σ' → ∀ (T : Addr) (o : Obj) (H2 : Hp), Same (drT H1) H2 → H2 T = some (.frz o (.tup (row.map vi))) →
    g (.ref T) σ' H2 fun σ2 H3 => tb { nx := fun σ3 H4 => Same H2 H4 ∧ W (i + 1) σ3, ct := fun σ3 H4 => Same H2 H4 ∧ W (i + 1) σ3, bk := fun _ _ => False, rt := fun v H4 => Same H2 H4 ∧ ∀ H5, Same H1 H5 → Same (drT H4) H5 → D.rt v H5 } σ2 H3
section
variable {X : Cx}
/-- a term that lets nothing out, run where the sleepers can't be woken -/
theorem run_hid {α : Type} {t : Sem α} {Q : α → Shared → Prop} {E : Value → Shared → Prop} {s : Shared} (hx : ∀ e s, X.xe e s → False) (h : wpAny (model X.prog X.w) X.A t Q X.xe (hide (sleepers s.gens) s)) :
    wpAny (model X.prog X.w) X.A t (fun a s' => Q a (hide (sleepers s.gens) s') ∧ Kp (sleepers s.gens) s.gens s'.gens ∧ s.gens.size ≤ s'.gens.size) E s :=
  wpAny_mono (wpAny_frame (E := fun _ _ => False) (wpAny_mono h (fun _ _ q => q) fun e s' q => hx e s' q)) (fun _ _ q => q) fun _ _ q => q.elim
/-- what lies above a line that was the heap's end -/
structure Over (X : Cx) (pins : List (Addr × Obj)) (H : Hp) (lo : Nat) : Prop where
  fp : ∀ b, lo ≤ b → FpOk X pins H b
theorem over_of {pins : List (Addr × Obj)} {σ : L2.St} {H : Hp} {s : Shared} (I : Inv X pins σ H s) : Over X pins H s.heap.objs.size := ⟨fun b hb => I.fpOk hb (I.hok.fresh hb)⟩
/-- the generator has run: what it may change lies above; the tuple at T is taken, the dicts are frozen -/
theorem Inv_woken {pins : List (Addr × Obj)} {σ : L2.St} {H : Hp} {lo ad T : Nat} {row : List Nat} {o : Obj} {s s4 : Shared} (I : Inv X pins σ H s) (V : Over X pins H lo) (he : Eff lo ad s s4) (hT : lo ≤ T) (ho : s4.heap.get? T = some o) (ht : TupAt s4.heap T row) (hl : row.length ≤ sizeLine) :
    Inv X pins σ H s4 ∧ Inv X pins σ (upd (fzT H s4.heap) T (.frz o (.tup (row.map vi)))) s4 := by
  have hlt : ∀ b, b ∉ List.range' lo (T + 1 - lo + (s.heap.objs.size - lo)) → b < s.heap.objs.size → b < lo := fun b h1 h2 => by
    rw [List.mem_range'_1] at h1
    omega
  have hok : HOk X.prog X.w H s4.heap := fun a u e => by
    have hal : ∀ c v, H c = some v → c < lo := fun c v q => by
      cases Nat.lt_or_ge c lo with
      | inl z => exact z
      | inr z => have := (V.fp c z).1; rw [q] at this; cases this
    refine (I.hok a u e).stay (fun b ob hb q => he.keep b ob (.inl ?_) q) (fun _ q => q) fun _ _ q => q
    rcases hb with rfl | hb
    · exact hal _ _ e
    · exact hal _ _ hb
  have hch : ∀ b ∈ List.range' lo (T + 1 - lo + (s.heap.objs.size - lo)), (b ∈ X.ex ∨ X.s_0.heap.objs.size ≤ b) ∧ b ≠ X.env.locals ∧ (∀ x c, X.env.cells.lookup x = some c → c ≠ b) ∧ ∀ p ∈ X.pn ++ pins, p.1 ≠ b := fun b hb => by
    obtain ⟨_, a2, a3, a4, a5, a6⟩ := V.fp b (List.mem_range'_1.mp hb).1
    exact ⟨a4, a2, a5, a6⟩
  have I4 : Inv X pins σ H s4 := I.call' (ch := List.range' lo (T + 1 - lo + (s.heap.objs.size - lo))) he.os
    ⟨fun b ob q _ _ hx => he.keep b ob (.inl (hlt b hx (Heap.lt_size q))) q, fun b ob q _ _ hx => ⟨ob.slots, he.keep b ob (.inl (hlt b hx (Heap.lt_size q))) q⟩, fun _ _ _ q _ => q, fun b ob q hx => ⟨ob, he.keep b ob (.inl (hlt b hx (Heap.lt_size q))) q⟩, fun _ _ q => q, fun _ _ _ q => q, fun b ps q => ⟨#[], by rw [Array.append_empty]; exact q⟩⟩ hok he.bare hch
  refine ⟨I4, ?_⟩
  have hTn : H T = none := (V.fp T hT).1
  have hfz := hok_fzT I4.hok
  have hFT : fzT H s4.heap T = none := fzT_none hTn
  refine I4.call' (ch := [T]) rfl ⟨fun b ob q _ _ _ => q, fun b ob q _ _ _ => ⟨ob.slots, q⟩, fun b ob _ q hx => ?_, fun b ob q _ => ⟨ob, q⟩, fun b xs q => ?_, fun b ob u q => ?_, fun b ps q => ⟨#[], ?_⟩⟩ (fun a u q => ?_) I4.bare fun b hb => ?_
  · rw [upd_ne (fun z => hx (by rw [z]; exact List.mem_cons_self))]; exact fzT_none q
  · rw [upd_ne (ne_of_none q hTn), fzT_ne (fun _ z => by rw [q] at z; cases z)]; exact q
  · rw [upd_ne (ne_of_none q hTn), fzT_ne (fun _ z => by rw [q] at z; cases z)]; exact q
  · rw [upd_ne (ne_of_none q hTn), fzT_ne (fun _ z => by rw [q] at z; cases z), Array.append_empty]; exact q
  · have up : ∀ {c v}, fzT H s4.heap c = some v → upd (fzT H s4.heap) T (.frz o (.tup (row.map vi))) c = some v := fun {c v} z => by rw [upd_ne (ne_of_none z hFT)]; exact z
    by_cases hb : a = T
    · subst hb
      rw [upd_same] at q; cases q
      obtain ⟨us, r, i⟩ := ht
      exact ⟨ho, by rw [List.length_map]; exact hl, us, r, i⟩
    · rw [upd_ne hb] at q
      exact (hfz a u q).stay (fun _ _ _ z => z) (fun b z => up z) fun b xs z => up z
  · rw [List.mem_singleton.mp hb]
    obtain ⟨_, a2, a3, a4, a5, a6⟩ := V.fp T hT
    exact ⟨a4, a2, a5, a6⟩
theorem over_fz {pins : List (Addr × Obj)} {H : Hp} {lo T : Nat} {o : Obj} {u : HO} {h : Heap} (V : Over X pins H lo) {b : Nat} (hb : lo ≤ b) (hne : b ≠ T) : FpOk X pins (upd (fzT H h) T (.frz o u)) b := by
  obtain ⟨a1, a⟩ := V.fp b hb
  exact ⟨by rw [upd_ne hne]; exact fzT_none a1, a⟩
theorem same_fz {H : Hp} {h : Heap} {T : Addr} {u : HO} (hn : H T = none) : Same (drT H) (upd (fzT H h) T u) := fun a v q => by
  obtain ⟨q1, q2⟩ := drT_some.mp q
  rw [upd_ne (ne_of_none q1 hn), fzT_ne (fun kvs z => by rw [q1] at z; cases z; cases q2)]
  exact q1
end
end K72

-- K72RowsFor3
set_option Elab.async false
set_option linter.all false
set_option maxRecDepth 100000
set_option maxHeartbeats 2000000
/-! for .. in rows_with_sum(..): the rule itself. -/
namespace K72
open PySem PySem.Spec PyProof.Rows L2 GenW
section
variable {X : Cx}
theorem kp_slp {X : Cx} {lo g : Nat} {s4 s5 s7 : Shared} {T : Addr} {o : Obj} {u : HO} {pins : List (Addr × Obj)} {σ7 : L2.St} {H2 H7 : Hp} (hH : H2 T = some (.frz o u)) (ho : s4.heap.get? T = some o) (hb : ∀ b o, X.base.get? b = some o → s4.heap.get? b = some o)
    (J : Inv X (pins ++ pinsAt ((List.range s4.heap.objs.size).filter fun b => decide (lo ≤ b) && decide (b ≠ T) && (match s4.heap.get? b with | some ob => (match ob.data with | .cell _ => false | _ => true) | none => false)) s4.heap) σ7 H7 s7) (e : Same H2 H7) (hos : s7.os = s4.os)
    (k1 : Kp (sleepers s4.gens) s4.gens s5.gens) (z1 : s4.gens.size ≤ s5.gens.size) (k2 : Kp (sleepers s5.gens) s5.gens s7.gens) (z2 : s5.gens.size ≤ s7.gens.size) :
    Slp X.base lo g s4 s7 ∧ ∀ (i : Nat) (x : GenState), s4.gens[i]? = some x → asleep x = true → s7.gens[i]? = some x := by
  have slp : ∀ (i : Nat) (x : GenState), s4.gens[i]? = some x → asleep x = true → s7.gens[i]? = some x := fun i x q1 q2 => by
    have h1 : s5.gens[i]? = some x := by rw [k1 i (by unfold sleepers; rw [q1]; exact q2)]; exact q1
    rw [k2 i (by unfold sleepers; rw [h1]; exact q2)]; exact h1
  refine ⟨⟨fun b ob hl hd q => ?_, fun b ob q _ => J.bk b ob q, hos, J.bare, Nat.le_trans z1 z2, fun i x _ q1 q2 => slp i x q1 q2⟩, slp⟩
  by_cases hT : b = T
  · subst hT
    have := (J.hok b _ (e b _ hH)).1
    rw [ho] at q; cases q
    exact this
  · refine (J.pin (b, ob) (List.mem_append_right _ (List.mem_append_right _ (mem_pinsAt (List.mem_filter.mpr ⟨List.mem_range.mpr (Heap.lt_size q), ?_⟩) q)))).1
    rw [Bool.and_eq_true, Bool.and_eq_true]
    refine ⟨⟨decide_eq_true hl, decide_eq_true hT⟩, ?_⟩
    rw [q]
    show (match ob.data with | .cell _ => false | _ => true) = true
    split
    · rename_i v z; exact absurd z (hd v)
    · rfl
theorem ps_rows {j : Nat} {nm : Str} {p q q2 pos : Pos} {e1 e2 : Expr} {body : List Stmt} {ta : TA} {g : TG} {tb : TS} (T : Ft X.K X.mg) (hx : ∀ e s, X.xe e s → False) (hc : X.calm = true) (hr : Room j X.A) (hj : 13 ≤ j) (hgl : Gl X "rows_with_sum")
    (ha : PA X [e1, e2] ta) (hg : PG X (.Name nm p) g) (hb : PSs X body tb)
    (he : starEach [e1, e2] X.env = (false, eval e1 X.env) :: starEach [e2] X.env := by rfl) (hpl : (backTo q2 (starEach [e2] X.env)).any (·.1) = false := by rfl)
    (hs : ∀ x, foldedSetIterable (.Call (.Name "rows_with_sum" q) [e1, e2] [] q2) X.env x = pure x := by intro _; rfl) :
    PS X (.For (.Name nm p) (.Call (.Name "rows_with_sum" q) [e1, e2] [] q2) body [] pos) (tRows ta g tb) := by
  refine ⟨fun pins s σ H D I h => ?_⟩
  obtain ⟨fd, FD⟩ := T.f_rows_with_sum
  refine wpAny_For ?_ hs
  refine wpAny_Call_Name_kw (ld_glob I hgl T.g_rows_with_sum ?_)
  refine PySem.W.callWith_K (h₀ := X.base) I.ok.mod.kin FD.kp (thn (ha.run q2 pins s σ H _ I h) fun us s1 ⟨vs, H1, I1, rv, k, a, W, hvs, hk1, hk4, ha9, w0, wend, turn⟩ => ⟨I1.kIn, ?_⟩) he hpl
  subst hvs
  cases rv with
  | cons r rr =>
    cases rr with
    | cons r' rr =>
      cases rr
      obtain ⟨t, rfl⟩ := r
      obtain ⟨t', rfl⟩ := r'
      obtain ⟨k', rfl⟩ : ∃ k', k = k' + 1 := ⟨k - 1, by omega⟩
      have V := over_of I1
      refine wpAny_mono (rows_call T I.ok.mod k' (by omega) a X.A s1 t t' (fun _ _ => False) ha9 (hr.mono (by omega)) I1.bk (Nat.le_trans I.ok.bsz I1.sz) I1.bare) (fun u s2 h2 => ?_) fun _ _ x => x.elim
      have I2 : Inv X pins σ H1 s2 := by
        obtain ⟨ad, _, _, _, _, h2, h3, h4, _⟩ := h2
        exact I1.call' (ch := []) h3 (Un.kept h2) (I1.hok.kept h2) h4 fun b z => by simp at z
      obtain ⟨ad, rfl, had, hgen, _, _, _, _, _, hready⟩ := h2
      refine wpAny_pyIter_gen hgen ?_
      refine codeAny_forLoop_any (fun n s' => ∃ i σ', i + n = (rowsN (k' + 1) a).length ∧ Inv X pins σ' H1 s' ∧ s'.heap.IsGen ad s1.gens.size ∧ RReady (model X.prog X.w) X.A.in1 X.base s1.heap.objs.size ad s1.gens.size (rowsN (k' + 1) a) n s' ∧ W i σ') ?_
        (rowsN (k' + 1) a).length ⟨0, σ, by omega, I2, hgen, hready _ (Room.in1 (hr.mono (by omega))), w0⟩
      rintro n s3 ⟨i, σ3, hin, I3, hgen3, hrdy, w3⟩
      refine next_rows (I.ok.hd hc) I3.nolimit hr.depth hgen3 hrdy (fun hn s4 he4 => ?_) fun done row rem T0 s4 e1 e2 hT ht he4 hsl => ?_
      · have I4 : Inv X pins σ3 H1 s4 := by
          have hlt : ∀ b, b ∉ List.range' s1.heap.objs.size (s3.heap.objs.size - s1.heap.objs.size) → b < s3.heap.objs.size → b < s1.heap.objs.size := fun b h1 h2 => by
            rw [List.mem_range'_1] at h1
            omega
          refine I3.call' (ch := List.range' s1.heap.objs.size (s3.heap.objs.size - s1.heap.objs.size)) he4.os
            ⟨fun b ob q _ _ hx => he4.keep b ob (.inl (hlt b hx (Heap.lt_size q))) q, fun b ob q _ _ hx => ⟨ob.slots, he4.keep b ob (.inl (hlt b hx (Heap.lt_size q))) q⟩, fun _ _ _ q _ => q, fun b ob q hx => ⟨ob, he4.keep b ob (.inl (hlt b hx (Heap.lt_size q))) q⟩, fun _ _ q => q, fun _ _ _ q => q, fun b ps q => ⟨#[], by rw [Array.append_empty]; exact q⟩⟩
            (fun a u e => (I3.hok a u e).stay (fun b ob hb q => he4.keep b ob (.inl (hb.elim (fun z => by rw [z]; exact I1.hok.lt e) fun z => I1.hok.lt z)) q) (fun _ q => q) fun _ _ q => q) he4.bare fun b hb => ?_
          obtain ⟨_, a2, a3, a4, a5, a6⟩ := V.fp b (List.mem_range'_1.mp hb).1
          exact ⟨a4, a2, a5, a6⟩
        have hi : i = (rowsN (k' + 1) a).length := by omega
        subst hi
        exact wpAny_execs_nil ⟨σ3, H1, I4, wend σ3 w3⟩
      · have hrl : row.length = k' + 1 := rowsN_length (by rw [e1]; simp)
        obtain ⟨us0, rus, o, ho, hoc, hod⟩ := ht
        have ht : TupAt s4.heap T0 row := ⟨us0, rus, o, ho, hoc, hod⟩
        obtain ⟨I4, J4⟩ := Inv_woken I3 V he4 hT ho ht (by rw [hrl]; exact line_of (by omega))
        have hTn : H1 T0 = none := (V.fp T0 hT).1
        have hHT : upd (fzT H1 s4.heap) T0 (.frz o (.tup (row.map vi))) T0 = some (.frz o (.tup (row.map vi))) := upd_same
        have hrow : (rowsN (k' + 1) a)[i]? = some row := by
          have hlen : (rowsN (k' + 1) a).length = done.length + (rem.length + 1) := by rw [e1, List.length_append, List.length_cons]
          have hi : i = done.length := by omega
          rw [e1, hi, List.getElem?_append_right (Nat.le_refl _), Nat.sub_self]
          rfl
        have step := turn i row σ3 hrow w3 T0 o _ (same_fz hTn) hHT
        have P4 := J4.pinned (fp := (List.range s4.heap.objs.size).filter fun b => decide (s1.heap.objs.size ≤ b) && decide (b ≠ T0) && (match s4.heap.get? b with | some ob => (match ob.data with | .cell _ => false | _ => true) | none => false))
          (fun b hb => by
            have h2 := (List.mem_filter.mp hb).2
            rw [Bool.and_eq_true, Bool.and_eq_true] at h2
            exact over_fz V (of_decide_eq_true h2.1.1) (of_decide_eq_true h2.1.2))
          (fun b hb => by
            have h2 := (List.mem_filter.mp hb).2
            rw [Bool.and_eq_true] at h2
            have h3 := h2.2
            cases q : s4.heap.get? b with
            | none => rw [q] at h3; cases h3
            | some ob =>
              refine ⟨ob, rfl, fun v z => ?_⟩
              rw [q] at h3
              have h3 : (match ob.data with | .cell _ => false | _ => true) = true := h3
              rw [z] at h3; cases h3)
        show wpAny _ _ (pure ()) _ _ s4
        refine wpAny_pure ?_
        refine wpAny_mono (run_hid (E := fun _ _ => False) hx (hg.run _ _ σ3 _ (.ref T0) (.ref T0) _ (Inv_hide P4) rfl step)) (fun _ s5 h5 => ?_) fun _ _ q => q.elim
        obtain ⟨⟨σ5, H5, I5, step5⟩, kp5, sz5⟩ := h5
        have I5 := Inv_unhide I5
        refine wpAny_mono (run_hid (E := fun _ _ => False) hx (hb.run _ _ σ5 H5 _ (Inv_hide I5) step5)) (fun f s7 h7 => ?_) fun _ _ q => q.elim
        obtain ⟨h7, kp7, sz7⟩ := h7
        have again : ∀ {σ7 : L2.St} {H7 : Hp}, Inv X _ σ7 H7 (hide (sleepers s5.gens) s7) → (Same (upd (fzT H1 s4.heap) T0 (.frz o (.tup (row.map vi)))) H7 ∧ W (i + 1) σ7) →
            ∃ m, m < n ∧ ∃ i σ', i + m = (rowsN (k' + 1) a).length ∧ Inv X pins σ' H1 s7 ∧ s7.heap.IsGen ad s1.gens.size ∧ RReady (model X.prog X.w) X.A.in1 X.base s1.heap.objs.size ad s1.gens.size (rowsN (k' + 1) a) m s7 ∧ W i σ' := fun {σ7 H7} I7 n7 => by
          have I7 := Inv_unhide I7
          obtain ⟨sm, w7⟩ := n7
          have fz : ∀ a u, fzT H1 s4.heap a = some u → H7 a = some u := fun a u q => sm a u (by rw [upd_ne (ne_of_none q (fzT_none hTn))]; exact q)
          obtain ⟨S, sl⟩ := kp_slp (g := s1.gens.size) hHT ho I4.bk I7 sm (I7.os.trans I4.os.symm) kp5 sz5 kp7 sz7
          refine ⟨rem.length, by omega, i + 1, σ7, by omega, Inv_back I4 I7.unpinned fz, ?_, hsl.ready S (fun x q1 q2 => sl _ x q1 q2), w7⟩
          obtain ⟨og, gn, gq, q1, q2⟩ := hgen3
          exact ⟨og, gn, gq, S.keep ad og (Nat.le_of_lt had) (fun v z => by rw [q2.2.1] at z; cases z) (he4.keep ad og (.inr rfl) q1), q2⟩
        cases f with
        | next => obtain ⟨σ7, H7, I7, n7⟩ := h7; exact again I7 n7
        | cont => obtain ⟨σ7, H7, I7, n7⟩ := h7; exact again I7 n7
        | brk => obtain ⟨σ7, H7, I7, n7⟩ := h7; exact n7.elim
        | ret v =>
          obtain ⟨x7, σ7, H7, I7, r7, sm, n7⟩ := h7
          have I7 := Inv_unhide I7
          have fz : ∀ a u, fzT H1 s4.heap a = some u → H7 a = some u := fun a u q => sm a u (by rw [upd_ne (ne_of_none q (fzT_none hTn))]; exact q)
          obtain ⟨I8, s8, s9⟩ := Inv_thaw I4 I7.unpinned fz
          exact ⟨x7, σ7, _, I8, r7, n7 _ s8 s9⟩
end
end K72

-- K72Find
set_option Elab.async false
set_option linter.all false
set_option maxRecDepth 100000
set_option maxHeartbeats 4000000
/-! votes.py: find_votes. -/
namespace K72
open PySem PySem.Spec PyProof.Rows L2
/-! ### the mirror -/
def fvOut (n : Nat) (ls : List (List Nat)) : List (List Nat) := (dualN n ls).map (others n)
def fvRow (n : Nat) (ls : List (List Nat)) (r : List Nat) : Option (Nat × List Nat) := (quotaFor r ls (fvOut n ls)).map fun q => (q, r)
def findVotes (n : Nat) (ls : List (List Nat)) : Option (Nat × List Nat) := (List.range 12).findSome? fun i => (rowsN n (1 + i)).findSome? (fvRow n ls)
theorem sum_filter_le {f : Nat → Nat} {p : Nat → Bool} : ∀ (l : List Nat), ((l.filter p).map f).sum ≤ (l.map f).sum
  | [] => Nat.le_refl _
  | x :: r => by
    have := sum_filter_le (f := f) (p := p) r
    rw [List.filter_cons]
    split
    · simp only [List.map_cons, List.sum_cons]; omega
    · simp only [List.map_cons, List.sum_cons]; omega
theorem sumV_le {vs l : List Nat} (h : l ∈ allLots vs.length) : sumV vs l ≤ vs.sum := by
  rw [← sumV_range vs, ← filt_self h]
  exact sum_filter_le _
theorem rows_le : ∀ {k a : Nat} {r : List Nat}, r ∈ rowsN k a → ∀ v ∈ r, v ≤ a
  | 0, a, r, h => nomatch h
  | 1, a, r, h => by
    rw [List.mem_singleton.mp h]
    intro v hv
    rw [List.mem_singleton.mp hv]
    exact Nat.le_refl _
  | k + 2, a, r, h => by
    obtain ⟨f, hf, h⟩ := List.mem_flatMap.mp h
    obtain ⟨r', h2, e⟩ := List.mem_map.mp h
    have hf2 := (List.mem_range'_1.mp hf).2
    intro v hv
    rw [← e] at hv
    rcases List.mem_cons.mp hv with e | e
    · omega
    · have := rows_le h2 v e
      omega
theorem fv_ok {n a : Nat} {ls : List (List Nat)} {r : List Nat} {q : Nat} (ok : OkL n ls) (ha : a ≤ 12) (hr : r ∈ rowsN n a) (hq : quotaFor r ls (fvOut n ls) = some q) : OkV q r where
  n1 := by rw [rowsN_length hr]; exact ok.n1
  n5 := by rw [rowsN_length hr]; exact ok.n5
  le := fun v hv => by have := rows_le hr v hv; omega
  q1 := by
    unfold quotaFor at hq
    dsimp only at hq
    split at hq
    · injection hq with hq; omega
    · cases hq
  qs := by
    unfold quotaFor at hq
    dsimp only at hq
    split at hq
    · rename_i h
      injection hq with hq
      obtain ⟨l, hl⟩ := List.exists_mem_of_ne_nil ls ok.some
      have h1 := of_decide_eq_true (List.all_eq_true.mp h l hl)
      have h2 := sumV_le (vs := r) (l := l) (by rw [rowsN_length hr]; exact ok.mem l hl)
      omega
    · cases hq
theorem fs_first {α β : Type} {f : α → Option β} : ∀ {l : List α} {i : Nat} {a : α} {b : β}, l[i]? = some a → f a = some b → (∀ x ∈ l.take i, f x = none) → l.findSome? f = some b
  | [], _, _, _, h, _, _ => by simp at h
  | x :: r, 0, a, b, h, hb, _ => by
    have e : x = a := by simpa using h
    subst e
    rw [List.findSome?_cons, hb]
  | x :: r, i + 1, a, b, h, hb, hn => by
    have h2 : r[i]? = some a := by simpa using h
    rw [List.findSome?_cons, hn x (by simp)]
    exact fs_first h2 hb fun y hy => hn y (by rw [List.take_succ_cons]; exact List.mem_cons_of_mem _ hy)
theorem fs_none {α β : Type} {f : α → Option β} {l : List α} (h : ∀ x ∈ l, f x = none) : l.findSome? f = none := List.findSome?_eq_none_iff.mpr h
section
variable {P : Program} {w : World} {K : PySem.W.Frag} {mg : Str → Option Value} {base : Heap}
def spFind (K : PySem.W.Frag) : Sp := fun us H Q _ => ∃ (x : Addr) (n : Nat) (ls : List (List Nat)), us = [.ref x] ∧ FamAt K H x n ls ∧ OkL n ls ∧ n ≤ 4 ∧
  (findVotes n ls = none → ∀ H', Same H H' → Q .non H') ∧ (∀ q vs, findVotes n ls = some (q, vs) → OkV q vs → vs.length = n → ∀ y H', Same H H' → VotesAt K H' y q vs → Q (.ref y) H')
abbrev nm_find : List Str := ["family", "outside", "amount", "votes", "quota", "lot"]
theorem sc_find : FnScope nm_find ["family"] (defScope s_find_votes) := ⟨rfl, rfl, rfl, by decide +kernel, rfl, by decide +kernel, by decide +kernel⟩
theorem r_find (T : Ft K mg) : CalR P w K mg base 16 "find_votes" (spFind K) := by
  refine cal_of T.g_find_votes T.f_find_votes sc_find (fun _ _ _ _ _ _ us hl => match us, hl with | [_], _ => rfl) (fun vs H Q E h => ?_) fun cdv A outer s H vs Q E hr h => ?_
  · obtain ⟨_, _, _, rfl, _⟩ := h; rfl
  · obtain ⟨x, n, ls, rfl, fx, ok, h4, hnone, hsome⟩ := h
    obtain ⟨dx, t, as, hx, ht, hl⟩ := id fx
    have h1 := ok.n1
    have h5 := ok.n5
    refine ⟨_, pss_cons (ps_if (pt_cmp (pc_gt (pe_fldK K (pv 0)) (pe_gc rfl T.i_MOST_FOUND_votes))) (pss_one ps_never) pss_nil)
      (pss_cons (ps_setLc (i := 1) (own := [("lot", 5)]) (g := gName 5) rfl sc_find.nd rfl rfl (sw_true rfl rfl rfl rfl) (pi_tup (pe_fldK K (pe_mr0 (m_dual T) hr (by decide) (pv 0)))) (blkOk_by (N := nm_find) (sc := defScope s_find_votes) (by decide +kernel)) (fun _ _ _ _ _ => pg_name (i := 5) sc_find.nd rfl (.inl rfl))
          (fun _ _ _ _ _ => pts_nil) (fun _ _ _ _ _ => pe_cr (r_others T) hr (by decide) rfl (pa_cons (pe_fldK K (pv 0)) (pa_cons (pv 5) pa_nil))))
      (pss_cons (ps_for PassesOwn.never rfl (pi_range2 rfl T.z_range (pa_cons pe_int (pa_cons (pe_op op_add (pe_gc rfl T.i_MOST_SUM) pe_int) pa_nil))) (pg_name (i := 2) sc_find.nd rfl (.inl rfl))
        (pss_one (ps_rows T (fun _ _ h => h) rfl hr (by decide) rfl (pa_cons (pe_fldK K (pv 0)) (pa_cons (pv 2) pa_nil)) (pg_name (i := 3) sc_find.nd rfl (.inl rfl))
          (pss_cons (ps_set (i := 4) sc_find.nd rfl (.inl rfl) (pe_cr (r_quota T) hr (by decide) rfl (pa_cons (pv 3) (pa_cons (pe_fldK K (pv 0)) (pa_cons (pv 1) pa_nil)))))
          (pss_one (ps_if (pt_cmp (pc_notN (pv 4))) (pss_one (ps_ret (pe_krS (mk_votes T) hr (by decide) rfl (pa_cons (pv 4) (StX.pa_star (pv 3) pa_nil))))) pss_nil))))))
      (pss_one (ps_ret pe_non)))), ?_⟩
    refine ⟨_, rfl, x, _, dx, _, _, rfl, hx, T.c_Family, T.n_Family_copies, f2_a (by decide), _, _, rfl, rfl, _, rfl, ?_⟩
    refine iteFd (by omega) ?_
    refine ⟨_, rfl, x, dx, _, rfl, hx, f2_no (by decide) (by decide), x, n, ls, rfl, fx, ok, fun o H1 ho e1 fo => ?_⟩
    obtain ⟨do_, to, aso, hox, hto, hlo⟩ := fo
    have okd : OkL n (dualN n ls) := ok.dual.least
    have hd32 : (dualN n ls).length ≤ 32 := least_32 h5
    have hdl : aso.length = (dualN n ls).length := Pd.len hlo
    refine ⟨o, _, do_, _, _, rfl, hox, T.c_Family, T.n_Family_lots, f2_b, to, rfl, ⟨_, hto⟩, ?_⟩
    refine fun D hD => lc_pure (zs := dualN n ls) (I := fun z x => ∃ a : Addr, x = V.ref a ∧ LT K H1 a z) (fun _ => true) (fun z y H' => ∃ a : Addr, y = V.ref a ∧ LT K H' a (others n z)) (fun z => lot_stay (others n z))
      (walk_tup hto) (lots_in hlo) (by rw [List.length_map]; omega) (fun _ => rfl) (fun z x H1 e1 hz hI Q' q' => q' _ (Same.refl _)) ?_ hD ?_
    · rintro z y H2 e2 m ⟨a, rfl, ha⟩ _ Q' q'
      have e12 := e1.trans e2
      have hmm := okd.mem z m
      have hmm2 := allLots_llen hmm
      exact ⟨_, rfl, x, _, dx, _, _, rfl, e12 _ _ hx, T.c_Family, T.n_Family_copies, f2_a (by decide), _, rfl, n, a, z, rfl, h1, by omega, LT.same ha e2, allLots_lt hmm, by omega, fun p H3 hp e3 hp3 => q' _ _ e3 ⟨p, rfl, SqT.of hp3⟩⟩
    · intro H2 ys e2 hys hp2
      rw [List.filter_eq_self.mpr (fun _ _ => rfl)] at hp2
      obtain ⟨outs, rfl, hout⟩ := lots_out (pd_mapL (g := others n) hp2)
      have hout : LLs K H2 outs (fvOut n ls) := hout
      have e02 := e1.trans e2
      refine ⟨_, _, rfl, rfl, _, _, rfl, by constructor <;> (try decide), for_walk walk_rng (fun i σ H' => Same H2 H' ∧ (∃ v2 v3 v4 v5, σ = [some (.ref x), some (.ref D), v2, v3, v4, v5]) ∧ ∀ j, j < i → (rowsN n (1 + j)).findSome? (fvRow n ls) = none) ⟨Same.refl _, ⟨_, _, _, _, rfl⟩, fun j hj => absurd hj (Nat.not_lt_zero _)⟩ (fun i σ H' h => h.1) ?_ ?_⟩
      · rintro i y σ H3 hy ⟨e3, ⟨v2, v3, v4, v5, rfl⟩, hall⟩
        obtain ⟨hi, hy2⟩ : i < 12 ∧ y = V.int ((1 + i : Nat) : Int) := by
          obtain ⟨q1, q2⟩ := List.getElem?_eq_some_iff.mp hy
          rw [List.length_map, List.length_range] at q1
          refine ⟨q1, ?_⟩
          rw [← q2, List.getElem_map, List.getElem_range]
          push_cast
          rfl
        subst hy2
        have e03 := e02.trans e3
        refine ⟨_, rfl, x, _, dx, _, _, rfl, e03 _ _ hx, T.c_Family, T.n_Family_copies, f2_a (by decide), _, rfl, n, 1 + i, fun j σ => ∃ v3 v4 v5, σ = [some (.ref x), some (.ref D), some (V.int ((1 + i : Nat) : Int)), v3, v4, v5] ∧ ∀ r ∈ (rowsN n (1 + i)).take j, fvRow n ls r = none, rfl, h1, h4, by omega, ⟨_, _, _, rfl, fun r hr => by simp at hr⟩, ?_, ?_⟩
        · rintro σ' ⟨v3, v4, v5, rfl, hpre⟩
          rw [List.take_length] at hpre
          refine ⟨e3, ⟨_, _, _, _, rfl⟩, fun j hj => ?_⟩
          by_cases hji : j < i
          · exact hall j hji
          · have : j = i := by omega
            subst this
            exact fs_none hpre
        · rintro j row σ' hrow ⟨v3, v4, v5, rfl, hpre⟩ T0 o2 H4 sm hT0
          have hrm : row ∈ rowsN n (1 + i) := List.mem_of_getElem? hrow
          have hrl : row.length = n := rowsN_length hrm
          have hx4 : H4 x = some (.ins (He.ga K "Family") dx (f2 "copies" "lots" (vi n) (.ref t))) := sm _ _ (drT_some.mpr ⟨e03 _ _ hx, rfl⟩)
          have hl4 : LLs K H4 as ls := LLs.same (lls_drT (LLs.same hl e03)) sm
          have ht4 : SqT K H4 t (as.map V.ref) := Same.tup sm (sqT_drT (Same.tup e03 ht))
          have hD4 : H4 D = some (.lst (outs.map V.ref)) := sm _ _ (drT_some.mpr ⟨e3 _ _ hys, rfl⟩)
          have ho4 : LLs K H4 outs (fvOut n ls) := LLs.same (lls_drT (LLs.same hout e3)) sm
          have hT4 : SqT K H4 T0 (row.map vi) := .inl (.inr ⟨o2, hT0⟩)
          have hinc : ∀ l ∈ ls, ∀ c ∈ l, c < row.length := fun l hl c hc => by rw [hrl]; exact allLots_lt (ok.mem l hl) c hc
          have houtl : ∀ l ∈ fvOut n ls, (∀ c ∈ l, c < n) ∧ l.length ≤ n := fun l hl => by
            obtain ⟨z, _, rfl⟩ := List.mem_map.mp hl
            have hz : others n z ∈ allLots n := filt_mem n _
            exact ⟨allLots_lt hz, allLots_llen hz⟩
          have hone : fvOut n ls ≠ [] := fun e => okd.some (List.map_eq_nil_iff.mp e)
          refine ⟨_, rfl, _, rfl, x, _, dx, _, _, rfl, hx4, T.c_Family, T.n_Family_lots, f2_b, _, rfl, T0, t, D, row, as, outs, ls, fvOut n ls, rfl, hT4, ht4, hl4, SqL.of hD4, ho4, hinc, fun l hl c hc => by rw [hrl]; exact (houtl l hl).1 c hc,
            fun l hl => by have := allLots_llen (ok.mem l hl); omega, fun l hl => by have := (houtl l hl).2; omega, ok.few, by unfold fvOut; rw [List.length_map]; omega, hone, fun H5 e5 => ?_⟩
          refine ⟨_, rfl, ?_⟩
          cases hq : quotaFor row ls (fvOut n ls) with
          | none =>
            refine ⟨_, rfl, ?_⟩
            refine iteFb (by simp [vOpt]) ?_
            refine ⟨e5, _, _, _, rfl, fun r hr => ?_⟩
            rw [List.take_add_one, hrow, List.mem_append] at hr
            rcases hr with hr | hr
            · exact hpre r hr
            · rw [Option.toList_some, List.mem_singleton] at hr
              rw [hr]
              unfold fvRow
              rw [hq]; rfl
          | some q =>
            refine ⟨_, rfl, ?_⟩
            refine iteTb (by simp [vOpt, vi]) ?_
            refine ⟨_, rfl, _, rfl, T0, _, rfl, .inl (Same.tup e5 hT4), ?_⟩
            have okv := fv_ok ok (by omega) hrm hq
            refine votes_k ⟨q, row, by rw [List.append_nil]; rfl, okv, fun z H6 hz e6 hv => ⟨e5.trans e6, fun H7 s1 s2 => ?_⟩⟩
            have hf : findVotes n ls = some (q, row) := by
              refine fs_first (i := i) (a := i) (by rw [List.getElem?_range hi]) (fs_first hrow (by unfold fvRow; rw [hq]; rfl) hpre) fun j hj => ?_
              rw [List.take_range, List.mem_range] at hj
              exact hall j (by omega)
            exact hsome q row hf okv hrl z H7 (e03.trans s1) ((votes_drT hv).same s2)
      · rintro σ H3 ⟨e3, ⟨v2, v3, v4, v5, rfl⟩, hall⟩
        refine hnone (fs_none fun i hi => hall i ?_) H3 (e02.trans e3)
        rw [List.length_map, List.length_range]
        exact List.mem_range.mp hi
end
end K72

-- K72First
set_option Elab.async false
set_option linter.all false
set_option maxRecDepth 100000
set_option maxHeartbeats 4000000
/-! trades.py: first_trade. -/
namespace K72
open PySem PySem.Spec PyProof.Rows L2
theorem op_notInDK (K : PySem.W.Frag) {X : Cx} (hu : X.A.units + 65 < cLine) (h : X.K = K := by rfl) : OpR X (compareOp .NotIn) (rNotInD K) := by subst h; exact op_notInD hu
theorem shaped_ls (ls : List (List Nat)) : SeqAt.shaped (.list (ls.map dL)) = true := by
  unfold SeqAt.shaped
  have h : (PyData.list (ls.map dL)).depth ≤ 2 := Nat.succ_le_succ (depth_lots ls)
  rw [decide_eq_true (show (PyData.list (ls.map dL)).depth ≤ 64 by omega)]
  show (PyData.canLayAll0 _ && _) = true
  rw [lay_lots]; rfl
theorem any_dL (ls : List (List Nat)) (l : List Nat) : ((ls.map dL).any fun z => PyData.eqv z (dL l)) = ls.contains l := by
  rw [List.any_map, Bool.eq_iff_iff, List.any_eq_true, List.contains_iff_mem]
  constructor
  · rintro ⟨x, hx, h⟩
    have h2 : PyData.eqv (dL x) (dL l) = true := h
    rw [eqv_dL] at h2
    rw [← of_decide_eq_true h2]; exact hx
  · intro h
    refine ⟨l, h, ?_⟩
    show PyData.eqv (dL l) (dL l) = true
    rw [eqv_dL]; simp
theorem tally_comm (a b : List Nat) : tallyN a b = tallyN b a := by
  unfold tallyN
  apply List.map_congr_left
  intro c _
  exact Nat.add_comm _ _
theorem pairs_has {α : Type} {a b : α} : ∀ {l : List α}, a ∈ l → b ∈ l → (a, b) ∈ pairsFrom l ∨ (b, a) ∈ pairsFrom l
  | [], h, _ => nomatch h
  | c :: r, ha, hb => by
    show (a, b) ∈ (c :: r).map (fun x => (c, x)) ++ pairsFrom r ∨ (b, a) ∈ (c :: r).map (fun x => (c, x)) ++ pairsFrom r
    rw [List.mem_append, List.mem_append, List.mem_map, List.mem_map]
    rcases List.mem_cons.mp ha with e | ha
    · exact .inl (.inl ⟨b, hb, by rw [e]⟩)
    · rcases List.mem_cons.mp hb with e | hb
      · exact .inr (.inl ⟨a, List.mem_cons_of_mem _ ha, by rw [e]⟩)
      · rcases pairs_has ha hb with h | h
        · exact .inl (.inr h)
        · exact .inr (.inr h)
theorem pairs_pd {α β : Type} {F : α → β → Prop} : ∀ {l : List α} {r : List β}, Paired F l r → Paired (fun (p : α × α) (q : β × β) => F p.1 q.1 ∧ F p.2 q.2) (pairsFrom l) (pairsFrom r)
  | _, _, .nil => .nil
  | a :: l, b :: r, .cons f t => by
    refine Pd.app ?_ (pairs_pd t)
    refine .cons ⟨f, f⟩ ?_
    exact pd_mapL (pd_swap (pd_mapL (pd_swap (Pd.imp (fun x y h => ⟨f, h⟩) t))))
theorem pairs_mem {α : Type} : ∀ {l : List α} {p : α × α}, p ∈ pairsFrom l → p.1 ∈ l ∧ p.2 ∈ l
  | [], _, h => nomatch h
  | a :: r, p, h => by
    rcases List.mem_append.mp h with h | h
    · obtain ⟨x, hx, rfl⟩ := List.mem_map.mp h
      exact ⟨List.mem_cons_self, hx⟩
    · obtain ⟨h1, h2⟩ := pairs_mem h
      exact ⟨List.mem_cons_of_mem _ h1, List.mem_cons_of_mem _ h2⟩
def NoTr (n : Nat) (ls : List (List Nat)) : Prop := ∀ g1 t1 g2 t2, ¬ Trade n ls g1 t1 g2 t2
def outN (n : Nat) (ls : List (List Nat)) : List (List Nat) := (allLots n).filter fun l => !(everyN n ls).contains l
theorem every_mem {n : Nat} {ls : List (List Nat)} {l : List Nat} : l ∈ everyN n ls ↔ l ∈ allLots n ∧ containsN ls l = true := List.mem_filter
theorem out_mem {n : Nat} {ls : List (List Nat)} {l : List Nat} : l ∈ outN n ls ↔ l ∈ allLots n ∧ containsN ls l = false := by
  unfold outN
  rw [List.mem_filter]
  constructor
  · rintro ⟨h1, h2⟩
    refine ⟨h1, ?_⟩
    cases q : containsN ls l with
    | false => rfl
    | true =>
      have : (everyN n ls).contains l = true := List.contains_iff_mem.mpr (every_mem.mpr ⟨h1, q⟩)
      rw [this] at h2; cases h2
  · rintro ⟨h1, h2⟩
    refine ⟨h1, ?_⟩
    cases q : (everyN n ls).contains l with
    | false => rfl
    | true =>
      have := (every_mem.mp (List.contains_iff_mem.mp q)).2
      rw [h2] at this; cases this
/-- what the dict of tallies holds -/
structure TakenIn (K : PySem.W.Frag) (H : Hp) (out : List (List Nat)) (kvs : List (List Key × V)) (done : List (List Nat × List Nat)) : Prop where
  val : ∀ p ∈ kvs, ∃ q a b t1 t2, p.2 = V.ref q ∧ PrAt H q (a, b) ∧ LT K H a t1 ∧ LT K H b t2 ∧ t1 ∈ out ∧ t2 ∈ out ∧ p.1 = kL (tallyN t1 t2)
  has : ∀ ab ∈ done, (valV kvs (kL (tallyN ab.1 ab.2))).isSome = true
theorem val_mem {kvs : List (List Key × V)} {k : List Key} {v : V} (h : valV kvs k = some v) : (k, v) ∈ kvs := by
  unfold valV at h
  obtain ⟨p, hp, rfl⟩ := Option.map_eq_some_iff.mp h
  have h1 := List.mem_of_find?_eq_some hp
  have h2 := List.find?_some hp
  have h3 : p.1 = k := of_decide_eq_true h2
  rw [← h3]; exact h1
theorem val_none {kvs : List (List Key × V)} {k : List Key} (h : valV kvs k = none) : ∀ p ∈ kvs, p.1 ≠ k := by
  unfold valV at h
  intro p hp e
  have := List.find?_eq_none.mp (Option.map_eq_none_iff.mp h) p hp
  simp [e] at this
theorem val_app {kvs : List (List Key × V)} {k j : List Key} {v : V} : (valV kvs j).isSome = true → (valV (kvs ++ [(k, v)]) j).isSome = true := by
  unfold valV
  rw [Option.isSome_map, Option.isSome_map, List.find?_append]
  intro h
  cases q : kvs.find? fun p => decide (p.1 = j) with
  | none => rw [q] at h; cases h
  | some p => rfl
theorem val_last {kvs : List (List Key × V)} {k : List Key} {v : V} : (valV (kvs ++ [(k, v)]) k).isSome = true := by
  unfold valV
  rw [Option.isSome_map, List.find?_append]
  cases q : kvs.find? fun p => decide (p.1 = k) with
  | none => simp
  | some p => rfl
theorem TakenIn.keep {K : PySem.W.Frag} {H H' : Hp} {out : List (List Nat)} {kvs : List (List Key × V)} {done : List (List Nat × List Nat)} (h : TakenIn K H out kvs done) (e : ∀ a xs, SqT K H a xs → SqT K H' a xs) (e2 : ∀ q ab, PrAt H q ab → PrAt H' q ab) : TakenIn K H' out kvs done :=
  ⟨fun p hp => let ⟨q, a, b, t1, t2, h1, h2, h3, h4, r⟩ := h.val p hp; ⟨q, a, b, t1, t2, h1, e2 _ _ h2, e _ _ h3, e _ _ h4, r⟩, h.has⟩
theorem But.tupT {S : Addr} {K : PySem.W.Frag} {H H' : Hp} {a : Addr} {xs : List V} {kvs : List (List Key × V)} (e : But S H H') (hS : H S = some (.dT kvs)) (h : SqT K H a xs) : SqT K H' a xs := by
  rcases h with (h | ⟨o, h⟩) | h
  · exact .inl (.inl (e _ _ h (fun q => by rw [q, hS] at h; cases h)))
  · exact .inl (.inr ⟨o, e _ _ h (fun q => by rw [q, hS] at h; cases h)⟩)
  · exact .inr h
theorem But.prT {S : Addr} {H H' : Hp} {q : Addr} {ab : Addr × Addr} {kvs : List (List Key × V)} (e : But S H H') (hS : H S = some (.dT kvs)) (h : PrAt H q ab) : PrAt H' q ab := e _ _ h (fun z => by unfold PrAt at h; rw [z, hS] at h; cases h)
end K72

-- K72First2
set_option Elab.async false
set_option linter.all false
set_option maxRecDepth 100000
set_option maxHeartbeats 4000000
/-! trades.py: first_trade, walked. -/
namespace K72
open PySem PySem.Spec PyProof.Rows L2
section
variable {P : Program} {w : World} {K : PySem.W.Frag} {mg : Str → Option Value} {base : Heap}
def spFT (K : PySem.W.Frag) : Sp := fun us H Q _ => ∃ (x : Addr) (n : Nat) (ls : List (List Nat)), us = [.ref x] ∧ FamAt K H x n ls ∧ OkL n ls ∧ (∀ H', Same H H' → NoTr n ls → Q .non H') ∧
  ∀ p H' g1 t1 g2 t2, Same H H' → TradeAt K H' p g1 t1 g2 t2 → Trade n ls g1 t1 g2 t2 → Q (.ref p) H'
abbrev nm_ft : List Str := ["family", "inside", "outside", "taken_by", "first", "second", "counts", "one", "two", "lot"]
theorem sc_ft : FnScope nm_ft ["family"] (defScope s_first_trade) := ⟨rfl, rfl, rfl, by decide +kernel, rfl, by decide +kernel, by decide +kernel⟩
theorem r_ft (T : Ft K mg) : CalR P w K mg base 10 "first_trade" (spFT K) := by
  refine cal_of T.g_first_trade T.f_first_trade sc_ft (fun _ _ _ _ _ _ us hl => match us, hl with | [_], _ => rfl) (fun vs H Q E h => ?_) fun cdv A outer s0 H us Q E hr h => ?_
  · obtain ⟨_, _, _, rfl, _⟩ := h; rfl
  · obtain ⟨x, n, ls, rfl, fx, ok, hqn, hqs⟩ := h
    obtain ⟨dx, t, as, hx, _, _⟩ := id fx
    have h1 := ok.n1
    have h5 := ok.n5
    have hu65 : (A.deeper (envOfC "first_trade" (defScope s_first_trade) s0.heap.objs.size (He.ga K "first_trade") cdv)).units + 65 < cLine := by have := hr.un; omega
    refine ⟨_, pss_cons (ps_if (pt_cmp (pc_gt (pe_fldK K (pv 0)) (pe_gc rfl T.i_MOST_FOUND_trades))) (pss_one ps_never) pss_nil)
      (pss_cons (ps_set (i := 1) sc_ft.nd rfl (.inr rfl) (pe_every T hr (by decide) (pv 0) rfl T.z_list boot_list))
      (pss_cons (ps_setLc (i := 2) (own := [("lot", 9)]) (g := gName 9) rfl sc_ft.nd rfl rfl (sw_true rfl rfl rfl rfl) (pi_list (pe_cr (r_all_lots T) hr (by decide) rfl (pa_cons (pe_fldK K (pv 0)) pa_nil))) (blkOk_by (N := nm_ft) (sc := defScope s_first_trade) (by decide +kernel)) (fun _ _ _ _ _ => pg_name (i := 9) sc_ft.nd rfl (.inl rfl))
        (fun _ _ _ _ _ => pts_one (pt_cmpR (op_notInDK K hu65) (pv 9) (pv 1) rfl)) (fun _ _ _ _ _ => pv 9))
      (pss_cons (ps_set (i := 3) sc_ft.nd rfl (.inl rfl) pe_dnewT)
      (pss_cons (ps_for PassesOwn.never rfl (pi_list (pe_cr (r_pairs T) hr (by decide) rfl (pa_cons (pv 2) pa_nil))) (pg_tup rfl (pgs_cons (pg_name (i := 4) sc_ft.nd rfl (.inl rfl)) (pgs_cons (pg_name (i := 5) sc_ft.nd rfl (.inl rfl)) pgs_nil)))
        (pss_cons (ps_set (i := 6) sc_ft.nd rfl (.inl rfl) (pe_cr (r_tally T) hr (by decide) rfl (pa_cons (pv 4) (pa_cons (pv 5) pa_nil))))
        (pss_one (ps_if (pt_cmp (pc_dnotin (hu_of hr) (pv 6) (pv 3))) (pss_one (ps_dput (hu_of hr) (pv 3) (pv 6) (pe_tup (pa_cons (pv 4) (pa_cons (pv 5) pa_nil))) rfl)) pss_nil))))
      (pss_cons (ps_for PassesOwn.never rfl (pi_list (pe_cr (r_pairs T) hr (by decide) rfl (pa_cons (pv 1) pa_nil))) (pg_tup rfl (pgs_cons (pg_name (i := 4) sc_ft.nd rfl (.inl rfl)) (pgs_cons (pg_name (i := 5) sc_ft.nd rfl (.inl rfl)) pgs_nil)))
        (pss_one (ps_if (pt_cmp (pc_din (hu_of hr) (pe_cr (r_tally T) hr (by decide) rfl (pa_cons (pv 4) (pa_cons (pv 5) pa_nil))) (pv 3)))
          (pss_cons (ps_asg (pe_dget (hu_of hr) (pv 3) (pe_cr (r_tally T) hr (by decide) rfl (pa_cons (pv 4) (pa_cons (pv 5) pa_nil))) (fun _ _ => rfl)) (pg_tup rfl (pgs_cons (pg_name (i := 7) sc_ft.nd rfl (.inl rfl)) (pgs_cons (pg_name (i := 8) sc_ft.nd rfl (.inl rfl)) pgs_nil))))
          (pss_one (ps_ret (pe_lst (pa_cons (pe_tup (pa_cons (pv 4) (pa_cons (pv 7) pa_nil))) (pa_cons (pe_tup (pa_cons (pv 5) (pa_cons (pv 8) pa_nil))) pa_nil)))))) pss_nil)))
      (pss_one (ps_ret pe_non))))))), ?_⟩
    refine ⟨_, rfl, x, _, dx, _, _, rfl, hx, T.c_Family, T.n_Family_copies, f2_a (by decide), _, _, rfl, rfl, _, rfl, ?_⟩
    refine iteFd (by omega) ?_
    refine ⟨_, rfl, x, dx, _, rfl, hx, f2_no (by decide) (by decide), x, n, ls, rfl, fx, ok, fun ins H1 e1 hins p hp => ?_⟩
    have e2 : Same H (upd H1 p (.lst (ins.map V.ref))) := e1.trans (Same.new hp)
    have hins2 : LLs K (upd H1 p (.lst (ins.map V.ref))) ins (everyN n ls) := LLs.same hins (Same.new hp)
    have hp2 : (upd H1 p (.lst (ins.map V.ref))) p = some (.lst (ins.map V.ref)) := upd_same
    generalize upd H1 p (.lst (ins.map V.ref)) = H2 at e2 hins2 hp2
    refine ⟨_, rfl, x, _, dx, _, _, rfl, e2 _ _ hx, T.c_Family, T.n_Family_copies, f2_a (by decide), n, rfl, h1, by omega, fun pa cs H3 hpa e3 hpa3 hc => ?_⟩
    have hal : cs.length ≤ 32 := by
      rw [Pd.len hc, allLots_len]
      exact Nat.le_trans (Nat.pow_le_pow_right (by decide) h5) (by decide)
    refine ⟨pa, rfl, ⟨_, SqL.of hpa3⟩, ?_⟩
    refine fun D hD => lc_pure (zs := allLots n) (I := fun z x => ∃ a : Addr, x = V.ref a ∧ LT K H3 a z) (fun l => !(everyN n ls).contains l) (fun z y H' => ∃ a : Addr, y = V.ref a ∧ LT K H' a z) lot_stay
      (walk_lst (SqL.of hpa3)) (lots_in hc) (by rw [List.length_map]; omega) (fun _ => rfl) ?_ ?_ hD ?_
    · rintro z y H4 e4 m ⟨a, rfl, ha⟩ Q' q'
      refine ⟨_, rfl, _, rfl, dL z, (everyN n ls).map dL, dp_lot (LT.same ha e4), .lst (SqL.of ((e3.trans e4) _ _ hp2)) (dp_lots (LLs.same hins2 (e3.trans e4))), shaped_dL _, shaped_ls _, _, rfl, ?_⟩
      rw [any_dL]
      exact q' _ (Same.refl _)
    · rintro z y H4 e4 m ⟨a, rfl, ha⟩ _ Q' q'
      exact ⟨_, rfl, q' _ _ (Same.refl _) ⟨a, rfl, LT.same ha e4⟩⟩
    · intro H4 ys e4 hys hp4
      obtain ⟨outs, rfl, ho⟩ := lots_out hp4
      have ho4 : LLs K H4 outs (outN n ls) := ho
      have e04 := (e2.trans e3).trans e4
      have hins4 := LLs.same hins2 (e3.trans e4)
      have hpin4 := (e3.trans e4) _ _ hp2
      have hol : outs.length ≤ 32 := by
        rw [Pd.len ho4]
        exact Nat.le_trans (List.length_filter_le _ _) (by rw [← Pd.len hc]; exact hal)
      have hil : ins.length ≤ 32 := by
        rw [Pd.len hins4]
        exact Nat.le_trans (List.length_filter_le _ _) (by rw [← Pd.len hc]; exact hal)
      refine fun Dd hDd => ?_
      have e05 : Same H4 (upd H4 Dd (.dT [])) := Same.new hDd
      have hDn : H Dd = none := e04.free hDd
      refine ⟨_, rfl, D, outs, rfl, SqL.of (e05 _ _ hys), by omega, fun pp ps H6 hpp e6 hpp6 hpr => ?_⟩
      have hDd6 := e6 _ _ (show (upd H4 Dd (.dT [])) Dd = some (.dT []) from upd_same)
      have e46 := e05.trans e6
      have e06 := e04.trans e46
      -- the pairs of lots
      have hlots : Paired (fun (ab : Addr × Addr) (lm : List Nat × List Nat) => LT K H6 ab.1 lm.1 ∧ LT K H6 ab.2 lm.2) (pairsFrom outs) (pairsFrom (outN n ls)) := pairs_pd (LLs.same ho4 e46)
      have hpl : ps.length ≤ 1024 := by
        rw [Pd.len hpr]
        exact Nat.le_trans (pairs_len outs) (Nat.mul_le_mul hol hol)
      refine ⟨pp, rfl, ⟨_, SqL.of hpp6⟩, for_walk2 (J := Itl K pp) (xs := ps.map V.ref) (fun i σ H' => But Dd H6 H' ∧ (∃ v4 v5 v6, σ = [some (.ref x), some (.ref p), some (.ref D), some (.ref Dd), v4, v5, v6, none, none, none]) ∧ ∃ kvs, H' Dd = some (.dT kvs) ∧ kvs.length ≤ i ∧ TakenIn K H' (outN n ls) kvs ((pairsFrom (outN n ls)).take i))
        ⟨But.refl _, ⟨none, none, none, rfl⟩, [], hDd6, Nat.zero_le _, ⟨fun p h => (by simp at h), fun p h => (by simp at h)⟩⟩ (fun i σ H' h => walk_lst (SqL.of (h.1 _ _ hpp6 (fun e => by rw [e, hDd6] at hpp6; cases hpp6)))) ?_ ?_⟩
      · rintro i y σ H7 hy ⟨b7, ⟨v4, v5, v6, rfl⟩, kvs, hkv, hkl, tk⟩
        rw [List.getElem?_map] at hy
        obtain ⟨q, hq, rfl⟩ := Option.map_eq_some_iff.mp hy
        have hi : i < 1024 := by have := (List.getElem?_eq_some_iff.mp hq).1; omega
        obtain ⟨ab, hab1, hab2⟩ := Pd.at (pd_swap hpr) hq
        obtain ⟨lm, hlm1, hlm2, hlm3⟩ := Pd.at (pd_swap hlots) hab1
        obtain ⟨a, b⟩ := ab
        obtain ⟨l, m⟩ := lm
        have hq7 : PrAt H7 q (a, b) := b7.prT hDd6 hab2
        have ha7 : LT K H7 a l := b7.tupT hDd6 hlm2
        have hb7 : LT K H7 b m := b7.tupT hDd6 hlm3
        obtain ⟨hlo, hmo⟩ := pairs_mem (List.mem_of_getElem? hlm1)
        refine ⟨q, _, rfl, SqT.of hq7, rfl, _, _, rfl, _, _, rfl, rfl, ?_⟩
        refine ⟨_, rfl, _, rfl, a, b, l, m, rfl, ha7, hb7, fun c H8 hc8 e8 hc9 => ?_⟩
        have et : (pairsFrom (outN n ls)).take (i + 1) = (pairsFrom (outN n ls)).take i ++ [(l, m)] := by rw [List.take_add_one, hlm1]; rfl
        have hkv8 := e8 _ _ hkv
        have tk8 : TakenIn K H8 (outN n ls) kvs ((pairsFrom (outN n ls)).take i) := tk.keep (fun a xs h => Same.tup e8 h) (fun q ab h => e8 _ _ h)
        refine ⟨_, rfl, _, rfl, Dd, valV kvs (kL (tallyN l m)), rfl, .inr ⟨kvs, kL (tallyN l m), c, .inl hkv8, rfl, by rw [kL_map]; exact hc9, rfl⟩, _, rfl, ?_⟩
        cases hval : valV kvs (kL (tallyN l m)) with
        | some v =>
          refine iteF ⟨b7.trans (But.of e8), ⟨_, _, _, rfl⟩, kvs, hkv8, by omega, ⟨tk8.val, fun ab hab => ?_⟩⟩
          rw [et] at hab
          rcases List.mem_append.mp hab with hab | hab
          · exact tk8.has ab hab
          · rw [List.mem_singleton.mp hab, hval]; rfl
        | none =>
          refine iteT ⟨_, rfl, _, rfl, line_of (by show 2 ≤ 100000; decide), fun r hr9 => ?_⟩
          have e9 : Same H8 (upd H8 r (.tup [.ref a, .ref b])) := Same.new hr9
          have hkv9 := e9 _ _ hkv8
          refine ⟨_, rfl, _, rfl, Dd, _, rfl, .inr ⟨kvs, kL (tallyN l m), c, hkv9, rfl, by rw [kL_map]; exact e9 _ _ hc9, line_lt (by omega), rfl⟩, ?_⟩
          have bf : But Dd H8 (upd (upd H8 r (.tup [.ref a, .ref b])) Dd (.dT (putK kvs (kL (tallyN l m)) (.ref r)))) := (But.of e9).trans But.upd
          have kt : ∀ z xs, SqT K H8 z xs → SqT K (upd (upd H8 r (.tup [.ref a, .ref b])) Dd (.dT (putK kvs (kL (tallyN l m)) (.ref r)))) z xs := fun z xs h => bf.tupT hkv8 h
          have kp : ∀ z ab, PrAt H8 z ab → PrAt (upd (upd H8 r (.tup [.ref a, .ref b])) Dd (.dT (putK kvs (kL (tallyN l m)) (.ref r)))) z ab := fun z ab h => bf.prT hkv8 h
          refine ⟨(b7.trans (But.of e8)).trans bf, ⟨_, _, _, rfl⟩, _, upd_same, ?_, ?_⟩
          · exact Nat.le_trans (length_putK _ _ _) (by omega)
          · rw [put_new (val_none hval)]
            have hrD : r ≠ Dd := fun e => by rw [e, hkv8] at hr9; cases hr9
            refine ⟨fun p hp => ?_, fun ab hab => ?_⟩
            · rcases List.mem_append.mp hp with hp | hp
              · obtain ⟨q, a', b', t1, t2, k1, k2, k3, k4, k5⟩ := tk8.val p hp
                rw [← put_new (v := V.ref r) (val_none hval)]
                exact ⟨q, a', b', t1, t2, k1, kp _ _ k2, kt _ _ k3, kt _ _ k4, k5⟩
              · rw [List.mem_singleton.mp hp]
                rw [← put_new (v := V.ref r) (val_none hval)]
                refine ⟨r, a, b, l, m, rfl, ?_, kt _ _ (LT.same ha7 e8), kt _ _ (LT.same hb7 e8), hlo, hmo, rfl⟩
                show _ = _
                rw [upd_ne hrD]
                exact upd_same
            · rw [et] at hab
              rcases List.mem_append.mp hab with hab | hab
              · exact val_app (tk8.has ab hab)
              · rw [List.mem_singleton.mp hab]; exact val_last
      · rintro σ H7 ⟨b7, ⟨v4, v5, v6, rfl⟩, kvs, hkv, hkl, tk⟩
        have hlen7 : (ps.map V.ref).length = (pairsFrom (outN n ls)).length := by rw [List.length_map, Pd.len hpr, Pd.len hlots]
        rw [hlen7, List.take_length] at tk
        have e07 : Same H H7 := But.same hDn e06 b7
        have hpin7 : H7 p = some (.lst (ins.map V.ref)) := b7 _ _ (e46 _ _ hpin4) (fun e => by rw [e] at hpin4; rw [hpin4] at hDd; cases hDd)
        have hins7 : LLs K H7 ins (everyN n ls) := Pd.imp (fun a l h => b7.tupT hDd6 h) (LLs.same hins4 e46)
        refine ⟨_, rfl, p, ins, rfl, SqL.of hpin7, by omega, fun pq qs H8 hpq e8 hpq8 hqr => ?_⟩
        have hlots8 : Paired (fun (ab : Addr × Addr) (lm : List Nat × List Nat) => LT K H8 ab.1 lm.1 ∧ LT K H8 ab.2 lm.2) (pairsFrom ins) (pairsFrom (everyN n ls)) := pairs_pd (LLs.same hins7 e8)
        have hkv8 := e8 _ _ hkv
        have tk8 : TakenIn K H8 (outN n ls) kvs (pairsFrom (outN n ls)) := tk.keep (fun a xs h => Same.tup e8 h) (fun q ab h => e8 _ _ h)
        have e08 := e07.trans e8
        refine ⟨pq, rfl, ⟨_, SqL.of hpq8⟩, for_walk (walk_lst (SqL.of hpq8)) (fun i σ H' => Same H8 H' ∧ (∃ v4 v5 v6, σ = [some (.ref x), some (.ref p), some (.ref D), some (.ref Dd), v4, v5, v6, none, none, none]) ∧ ∀ gh ∈ (pairsFrom (everyN n ls)).take i, ∀ tt ∈ pairsFrom (outN n ls), tallyN gh.1 gh.2 ≠ tallyN tt.1 tt.2)
          ⟨Same.refl _, ⟨_, _, _, rfl⟩, fun p h => (by simp at h)⟩ (fun i σ H' h => h.1) ?_ ?_⟩
        · rintro i y σ H9 hy ⟨e9, ⟨w4, w5, w6, rfl⟩, hno⟩
          rw [List.getElem?_map] at hy
          obtain ⟨q, hq, rfl⟩ := Option.map_eq_some_iff.mp hy
          obtain ⟨ab, hab1, hab2⟩ := Pd.at (pd_swap hqr) hq
          obtain ⟨lm, hlm1, hlm2, hlm3⟩ := Pd.at (pd_swap hlots8) hab1
          obtain ⟨a, b⟩ := ab
          obtain ⟨l, m⟩ := lm
          have hlm2' : LT K H8 a l := hlm2
          have hlm3' : LT K H8 b m := hlm3
          obtain ⟨hlo, hmo⟩ := pairs_mem (List.mem_of_getElem? hlm1)
          refine ⟨q, _, rfl, SqT.of (e9 _ _ hab2), rfl, _, _, rfl, _, _, rfl, rfl, ?_⟩
          refine ⟨_, rfl, _, rfl, a, b, l, m, rfl, LT.same hlm2' e9, LT.same hlm3' e9, fun c H10 hc10 e10 hc11 => ?_⟩
          have e810 := e9.trans e10
          have hkv10 := e810 _ _ hkv8
          refine ⟨_, rfl, Dd, valV kvs (kL (tallyN l m)), rfl, .inr ⟨kvs, kL (tallyN l m), c, .inl hkv10, rfl, by rw [kL_map]; exact hc11, rfl⟩, _, rfl, ?_⟩
          cases hval : valV kvs (kL (tallyN l m)) with
          | none =>
            refine iteF ⟨e810, ⟨_, _, _, rfl⟩, fun gh hgh tt htt he => ?_⟩
            rw [List.take_add_one, hlm1, List.mem_append] at hgh
            rcases hgh with hgh | hgh
            · exact hno gh hgh tt htt he
            · rw [Option.toList_some, List.mem_singleton] at hgh
              subst hgh
              have := tk8.has tt htt
              rw [← he, hval] at this
              cases this
          | some v =>
            obtain ⟨r, a', b', t1, t2, k1, k2, k3, k4, k5, k6, k7⟩ := tk8.val _ (val_mem hval)
            have k1' : v = V.ref r := k1
            subst k1'
            have eqt : tallyN l m = tallyN t1 t2 := kL_inj k7
            refine iteT ⟨_, rfl, _, rfl, _, rfl, a, b, l, m, rfl, LT.same hlm2' e810, LT.same hlm3' e810, fun c2 H11 hc12 e11 hc13 => ?_⟩
            have e811 := e810.trans e11
            refine ⟨Dd, .ref r, rfl, .inr ⟨kvs, kL (tallyN l m), c2, .inl (e811 _ _ hkv8), rfl, by rw [kL_map]; exact hc13, hval.symm⟩, ?_⟩
            refine ⟨r, _, rfl, SqT.of (e811 _ _ k2), rfl, _, _, rfl, _, _, rfl, rfl, ?_⟩
            refine ⟨_, rfl, _, rfl, line_of (by show 2 ≤ 100000; decide), fun p1 hp1 => ?_⟩
            refine ⟨_, rfl, _, rfl, line_of (by show 2 ≤ 100000; decide), fun p2 hp2' => ?_⟩
            refine ⟨line_of (by show 2 ≤ 100000; decide), fun p3 hp3 => ?_⟩
            have f1 : Same H11 (upd H11 p1 (.tup [.ref a, .ref a'])) := Same.new hp1
            have f2 : Same (upd H11 p1 (.tup [.ref a, .ref a'])) (upd (upd H11 p1 (.tup [.ref a, .ref a'])) p2 (.tup [.ref b, .ref b'])) := Same.new hp2'
            have f3 : Same (upd (upd H11 p1 (.tup [.ref a, .ref a'])) p2 (.tup [.ref b, .ref b'])) (upd (upd (upd H11 p1 (.tup [.ref a, .ref a'])) p2 (.tup [.ref b, .ref b'])) p3 (.lst [.ref p1, .ref p2])) := Same.new hp3
            have f := (e811.trans f1).trans (f2.trans f3)
            obtain ⟨m1, m2⟩ := every_mem.mp hlo
            obtain ⟨m3, m4⟩ := every_mem.mp hmo
            obtain ⟨m5, m6⟩ := out_mem.mp k5
            obtain ⟨m7, m8⟩ := out_mem.mp k6
            refine hqs p3 _ l t1 m t2 (e08.trans f) ⟨p1, p2, a, a', b, b', SqL.of upd_same, f3 _ _ (f2 _ _ upd_same), f3 _ _ upd_same, LT.same hlm2' f, LT.same k3 f, LT.same hlm3' f, LT.same k4 f⟩ ⟨m1, m5, m3, m7, m2, m6, m4, m8, eqt⟩
        · rintro σ H9 ⟨e9, ⟨w4, w5, w6, rfl⟩, hno⟩
          have hlen9 : (qs.map V.ref).length = (pairsFrom (everyN n ls)).length := by rw [List.length_map, Pd.len hqr, Pd.len hlots8]
          rw [hlen9, List.take_length] at hno
          refine hqn H9 (e08.trans e9) fun g1 t1 g2 t2 tr => ?_
          have a1 := every_mem.mpr ⟨tr.g1m, tr.g1i⟩
          have a2 := every_mem.mpr ⟨tr.g2m, tr.g2i⟩
          have b1 := out_mem.mpr ⟨tr.t1m, tr.t1o⟩
          have b2 := out_mem.mpr ⟨tr.t2m, tr.t2o⟩
          rcases pairs_has a1 a2 with c1 | c1 <;> rcases pairs_has b1 b2 with c2 | c2
          · exact hno _ c1 _ c2 tr.eq
          · exact hno _ c1 _ c2 (by rw [tr.eq]; exact tally_comm _ _)
          · exact hno _ c1 _ c2 (by rw [tally_comm]; exact tr.eq)
          · exact hno _ c1 _ c2 (by rw [tally_comm, tr.eq]; exact tally_comm _ _)
end
end K72

-- K72Law1
set_option Elab.async false
set_option linter.all false
set_option maxRecDepth 100000
set_option maxHeartbeats 4000000
/-! The law's own defs: numbers drawn. -/
namespace K72
open PySem PySem.Spec PyProof.Rows L2
section
variable {P : Program} {w : World} {K : PySem.W.Frag} {mg : Str → Option Value} {base : Heap}
/-- a store at st leaves the list at s -/
def Ap (K : PySem.W.Frag) (s st : Addr) (xs : List V) : Prop := s ≠ st ∨ ∀ H, SqL K H s xs
theorem Ap.of {K : PySem.W.Frag} {H : Hp} {s st : Addr} {xs : List V} (h : SqL K H s xs) (hn : H st = none) : Ap K s st xs := by
  rcases h with h | h
  · refine .inl fun e => ?_
    subst e
    rcases h with h | ⟨o, h⟩ <;> (rw [hn] at h; cases h)
  · exact .inr fun H => .inr h
def StL (H : Hp) (st : Addr) (a b c d : Int) : Prop := H st = some (.lst [.int a, .int b, .int c, .int d])
def spStart (K : PySem.W.Frag) : Sp := fun vs H Q _ => ∃ (s : Addr) (ns : List Int), vs = [.ref s] ∧ SqL K H s (ns.map V.int) ∧ ∀ p H' a b, H p = none → Same H H' → StL H' p a b 1 0 → Q (.ref p) H'
abbrev nm_law_start : List Str := ["_law_script", "_law_first"]
theorem sc_law_start : FnScope nm_law_start ["_law_script"] (defScope s__law_start) := ⟨rfl, rfl, rfl, by decide +kernel, rfl, by decide +kernel, by decide +kernel⟩
theorem r_law_start (T : Ft K mg) : CalR P w K mg base 1 "_law_start" (spStart K) := by
  refine cal_of T.g__law_start T.f__law_start sc_law_start (fun _ _ _ _ _ _ us hl => match us, hl with | [_], _ => rfl) (fun vs H Q E h => ?_) fun cdv A outer s H vs Q E hr h => ?_
  · obtain ⟨_, _, rfl, _⟩ := h; rfl
  · obtain ⟨s, ns, rfl, hs, hq⟩ := h
    refine ⟨_, pss_cons (ps_set (i := 1) sc_law_start.nd rfl (.inl rfl) pe_int)
      (pss_cons (ps_if (pt_cmp (pc_gt (pe_callB (call_lenK K) rfl T.z_len boot_len (pa_cons (pv 0) pa_nil)) pe_int)) (pss_one (ps_set (i := 1) sc_law_start.nd rfl (.inl rfl) (pe_ix (ix_lstK K) (pv 0) pe_int (fun _ _ => rfl)))) pss_nil)
      (pss_one (ps_ret (pe_lst (pa_cons (pe_callB call_abs rfl T.z_abs boot_abs (pa_cons (pe_callTy call_int1 rfl T.z_int boot_int (pa_cons (pv 1) pa_nil)) pa_nil))
        (pa_cons (pe_callTy call_int1 rfl T.z_int boot_int (pa_cons (pe_cmpR op_ge (pe_callB call_abs rfl T.z_abs boot_abs (pa_cons (pe_callTy call_int1 rfl T.z_int boot_int (pa_cons (pv 1) pa_nil)) pa_nil)) (pe_op op_pow pe_int pe_int) (nomark _)) pa_nil))
        (pa_cons pe_int (pa_cons pe_int pa_nil)))))))), ?_⟩
    refine ⟨_, rfl, s, _, rfl, .inl hs, _, _, rfl, rfl, _, rfl, ?_⟩
    by_cases hl : 0 < ns.length
    · refine iteTd (by rw [List.length_map]; omega) ?_
      refine ⟨_, rfl, s, _, 0, .int (ns[0]'hl), rfl, rfl, hs, ?_, ?_⟩
      · unfold atI ixN
        rw [List.length_map]
        simp [hl]
      · refine ⟨_, rfl, .inl ⟨_, rfl, _, rfl, _, rfl, .inl ⟨_, rfl, _, rfl, _, _, rfl, rfl, ?_⟩⟩⟩
        exact ⟨⟨by decide, by decide, by decide⟩, _, _, rfl, rfl, .inr ⟨_, rfl, line_of (by show 4 ≤ 100000; decide), fun p hp => hq p _ _ _ hp (Same.new hp) upd_same⟩⟩
    · refine iteFd (by rw [List.length_map]; omega) ?_
      refine ⟨_, rfl, .inl ⟨_, rfl, _, rfl, _, rfl, .inl ⟨_, rfl, _, rfl, _, _, rfl, rfl, ?_⟩⟩⟩
      exact ⟨⟨by decide, by decide, by decide⟩, _, _, rfl, rfl, .inr ⟨_, rfl, line_of (by show 4 ≤ 100000; decide), fun p hp => hq p _ _ _ hp (Same.new hp) upd_same⟩⟩
def spDraw (K : PySem.W.Frag) : Sp := fun vs H Q _ => ∃ (s st : Addr) (ns : List Int) (a b c d lim : Int), vs = [.ref s, .ref st, .int lim] ∧ SqL K H s (ns.map V.int) ∧ StL H st a b c d ∧ Ap K s st (ns.map V.int) ∧ ns.length < 1000 ∧ 1 ≤ lim ∧ lim < 1000 ∧ -1000 ≤ d ∧ d < 1000000 ∧
  ∀ (r : Nat) (a' b' c' : Int), (r : Int) < lim → Q (.int (r : Int)) (upd H st (.lst [.int a', .int b', .int c', .int (d + 1)]))
abbrev nm_law_draw : List Str := ["_law_script", "_law_state", "_law_limit", "_law_number", "_law_cell", "_law_mixed"]
theorem sc_law_draw : FnScope nm_law_draw ["_law_script", "_law_state", "_law_limit"] (defScope s__law_draw) := ⟨rfl, rfl, rfl, by decide +kernel, rfl, by decide +kernel, by decide +kernel⟩
theorem sqL_upd {H : Hp} {s st : Addr} {xs ys : List V} (h : SqL K H s xs) (hne : Ap K s st xs) : SqL K (upd H st (.lst ys)) s xs := by
  rcases hne with hne | hw
  · rcases h with h | h
    · refine .inl ?_
      rcases h with h | ⟨o, h⟩
      · exact .inl (by rw [upd_ne hne]; exact h)
      · exact .inr ⟨o, by rw [upd_ne hne]; exact h⟩
    · exact .inr h
  · exact hw _
theorem r_law_draw (T : Ft K mg) : CalR P w K mg base 1 "_law_draw" (spDraw K) := by
  refine cal_of T.g__law_draw T.f__law_draw sc_law_draw (fun _ _ _ _ _ _ us hl => match us, hl with | [_, _, _], _ => rfl) (fun vs H Q E h => ?_) fun cdv A outer s0 H vs Q E hr h => ?_
  · obtain ⟨_, _, _, _, _, _, _, _, rfl, _⟩ := h; rfl
  · obtain ⟨s, st, ns, a, b, c, d, lim, rfl, hs, hst, hne, hns, hl1, hl2, hd1, hd2, hq⟩ := h
    refine ⟨_, pss_cons (ps_asg (pe_op op_add (pe_ix (ix_lstK K) (pv 1) pe_int (fun _ _ => rfl)) pe_int) (pg_sub (pv 1) pe_int set_list))
      (pss_cons (ps_if (PW.pt (pw_and (pt_cmpR op_eq (pe_ix (ix_lstK K) (pv 1) pe_int (fun _ _ => rfl)) pe_int (nomark _)) (pw_and1 (pt_cmp (pc_gt (pe_ix (ix_lstK K) (pv 1) pe_int (fun _ _ => rfl)) pe_int)))))
        (pss_cons (ps_set (i := 3) sc_law_draw.nd rfl (.inl rfl) (pe_op op_mod (pe_callTy call_int1 rfl T.z_int boot_int (pa_cons (pe_ix (ix_lstK K) (pv 1) pe_int (fun _ _ => rfl)) pa_nil)) (pv 2)))
        (pss_cons (ps_asg (pe_op op_fdiv (pe_ix (ix_lstK K) (pv 1) pe_int (fun _ _ => rfl)) (pv 2)) (pg_sub (pv 1) pe_int set_list))
        (pss_one (ps_ret (pv 3))))) pss_nil)
      (pss_cons (ps_asg pe_int (pg_sub (pv 1) pe_int set_list))
      (pss_cons (ps_set (i := 4) sc_law_draw.nd rfl (.inl rfl) pe_int)
      (pss_cons (ps_if (pt_cmp (pc_gt (pe_callB (call_lenK K) rfl T.z_len boot_len (pa_cons (pv 0) pa_nil)) pe_int))
        (pss_one (ps_set (i := 4) sc_law_draw.nd rfl (.inl rfl) (pe_ix (ix_lstK K) (pv 0) (pe_op op_mod (pe_callTy call_int1 rfl T.z_int boot_int (pa_cons (pe_ix (ix_lstK K) (pv 1) pe_int (fun _ _ => rfl)) pa_nil)) (pe_callB (call_lenK K) rfl T.z_len boot_len (pa_cons (pv 0) pa_nil))) (fun _ _ => rfl)))) pss_nil)
      (pss_cons (ps_asg (pe_op op_add (pe_ix (ix_lstK K) (pv 1) pe_int (fun _ _ => rfl)) pe_int) (pg_sub (pv 1) pe_int set_list))
      (pss_cons (ps_set (i := 5) sc_law_draw.nd rfl (.inl rfl) (pe_op op_mul (pe_op op_mod (pe_callTy call_int1 rfl T.z_int boot_int (pa_cons (pe_ix (ix_lstK K) (pv 1) pe_int (fun _ _ => rfl)) pa_nil)) pe_int) pe_int))
      (pss_cons (ps_set (i := 5) sc_law_draw.nd rfl (.inl rfl) (pe_op op_add (pe_op op_add (pe_op op_add (pv 5) (pe_op op_mod (pe_callTy call_int1 rfl T.z_int boot_int (pa_cons (pv 4) pa_nil)) pe_int)) (pe_op op_mul pe_int (pe_ix (ix_lstK K) (pv 1) pe_int (fun _ _ => rfl)))) pe_int))
      (pss_cons (ps_asg (pe_op op_mod (pe_callTy call_int1 rfl T.z_int boot_int (pa_cons (pv 5) pa_nil)) pe_int) (pg_sub (pv 1) pe_int set_list))
      (pss_cons (ps_set (i := 5) sc_law_draw.nd rfl (.inl rfl) (pe_op op_mod (pe_callTy call_int1 rfl T.z_int boot_int (pa_cons (pe_op op_add (pe_op op_mul (pe_ix (ix_lstK K) (pv 1) pe_int (fun _ _ => rfl)) pe_int) (pe_ix (ix_lstK K) (pv 1) pe_int (fun _ _ => rfl))) pa_nil)) pe_int))
      (pss_one (ps_ret (pe_op op_mod (pe_callTy call_int1 rfl T.z_int boot_int (pa_cons (pe_op op_fdiv (pv 5) pe_int) pa_nil)) (pv 2))))))))))))), ?_⟩
    have h1 : StL (upd H st (.lst [.int a, .int b, .int c, .int (d + 1)])) st a b c (d + 1) := upd_same
    refine ⟨_, rfl, st, _, 3, .int d, rfl, rfl, SqL.of hst, rfl, _, _, rfl, rfl, _, rfl, st, _, 3, 3, rfl, rfl, hst, rfl, ?_⟩
    refine ⟨_, rfl, st, _, 1, .int b, rfl, rfl, SqL.of h1, rfl, rfl, _, rfl, ?_⟩
    have fin : ∀ (x : Int) (a' b' c' : Int), Q (.int (x % lim)) (upd H st (.lst [.int a', .int b', .int c', .int (d + 1)])) := fun x a' b' c' => by
      have h0 := Int.emod_nonneg x (b := lim) (by omega)
      have h1 := Int.emod_lt_of_pos x (b := lim) (by omega)
      have := hq (x % lim).toNat a' b' c' (by omega)
      rw [Int.toNat_of_nonneg h0] at this
      exact this
    have ix : 0 < ns.length → ∃ e : Int, atI (ns.map V.int) (c % (ns.length : Int)) = some (.int e) := fun hl => by
      have g0 := Int.emod_nonneg c (b := (ns.length : Int)) (by omega)
      have g1 := Int.emod_lt_of_pos c (b := (ns.length : Int)) (by omega)
      have g2 : (c % (ns.length : Int)).toNat < ns.length := by omega
      refine ⟨ns[(c % (ns.length : Int)).toNat]'g2, ?_⟩
      unfold atI ixN
      rw [List.length_map, if_pos g0, if_pos g1]
      simp [g2]
    by_cases hb : b = 1
    · refine iteTd (by rw [hb]) ?_
      refine ⟨_, rfl, st, _, 0, .int a, rfl, rfl, SqL.of h1, rfl, _, _, rfl, rfl, _, rfl, ?_⟩
      by_cases ha : 0 < a
      · refine iteTd ha ?_
        refine ⟨_, rfl, st, _, 0, .int a, rfl, rfl, SqL.of h1, rfl, .inl ⟨_, rfl, _, rfl, _, _, rfl, rfl, by omega, ?_⟩⟩
        refine ⟨_, rfl, st, _, 0, .int a, rfl, rfl, SqL.of h1, rfl, _, rfl, _, _, rfl, rfl, ⟨by omega, by omega⟩, _, rfl, st, _, 0, 0, rfl, rfl, h1, rfl, ?_⟩
        rw [upd_upd]
        exact ⟨_, rfl, fin _ _ _ _⟩
      · refine iteFd ha ?_
        refine ⟨_, rfl, st, _, 1, 1, rfl, rfl, h1, rfl, ?_⟩
        rw [upd_upd]
        have h2 : StL (upd H st (.lst ([V.int a, .int b, .int c, .int (d + 1)].set 1 (.int 0)))) st a 0 c (d + 1) := upd_same
        refine ⟨_, rfl, s, _, rfl, .inl (sqL_upd hs hne), _, _, rfl, rfl, _, rfl, ?_⟩
        by_cases hl : 0 < ns.length
        · obtain ⟨e, he⟩ := ix hl
          refine iteTd (by rw [List.length_map]; omega) ?_
          refine ⟨_, rfl, _, rfl, st, _, 2, .int c, rfl, rfl, SqL.of h2, rfl, .inl ⟨_, rfl, _, rfl, s, _, rfl, .inl (sqL_upd hs hne), _, _, rfl, rfl, by rw [List.length_map]; omega, s, _, _, .int e, rfl, rfl, sqL_upd hs hne, by rw [List.length_map]; exact he, ?_⟩⟩
          refine ⟨_, rfl, st, _, 2, .int c, rfl, rfl, SqL.of h2, rfl, _, _, rfl, rfl, _, rfl, st, _, 2, 2, rfl, rfl, h2, rfl, ?_⟩
          rw [upd_upd]
          have h3 : StL (upd H st (.lst (([V.int a, .int b, .int c, .int (d + 1)].set 1 (.int 0)).set 2 (.int (c + 1))))) st a 0 (c + 1) (d + 1) := upd_same
          refine ⟨_, rfl, st, _, 0, .int a, rfl, rfl, SqL.of h3, rfl, .inl ⟨_, rfl, _, _, rfl, rfl, (show (0 : Int) < _ by decide), _, _, rfl, rfl, .inr ⟨by decide, by decide⟩, ?_⟩⟩
          refine ⟨_, rfl, _, rfl, .inl ⟨_, rfl, _, _, rfl, rfl, (show (0 : Int) < _ by decide), _, _, rfl, rfl, _, rfl, st, _, 3, .int (d + 1), rfl, rfl, SqL.of h3, rfl, _, _, rfl, rfl, .inl ⟨by decide, by decide⟩, _, _, rfl, rfl, _, _, rfl, rfl, ?_⟩⟩
          refine ⟨_, rfl, .inl ⟨_, rfl, _, _, rfl, rfl, (show (0 : Int) < _ by decide), _, rfl, st, _, 0, 0, rfl, rfl, h3, rfl, ?_⟩⟩
          rw [upd_upd]
          refine ⟨_, rfl, st, _, 0, _, rfl, rfl, SqL.of upd_same, rfl, _, _, rfl, rfl, .inr ⟨by decide, by decide⟩, _, rfl, st, _, 3, .int (d + 1), rfl, rfl, SqL.of upd_same, rfl, _, _, rfl, rfl, .inl ⟨_, rfl, _, _, rfl, rfl, (show (0 : Int) < _ by decide), ?_⟩⟩
          exact ⟨_, rfl, _, _, rfl, rfl, ⟨by decide, by decide⟩, .inl ⟨_, rfl, _, rfl, _, _, rfl, rfl, by omega, fin _ _ _ _⟩⟩
        · refine iteFd (by rw [List.length_map]; omega) ?_
          refine ⟨_, rfl, st, _, 2, .int c, rfl, rfl, SqL.of h2, rfl, _, _, rfl, rfl, _, rfl, st, _, 2, 2, rfl, rfl, h2, rfl, ?_⟩
          rw [upd_upd]
          have h3 : StL (upd H st (.lst (([V.int a, .int b, .int c, .int (d + 1)].set 1 (.int 0)).set 2 (.int (c + 1))))) st a 0 (c + 1) (d + 1) := upd_same
          refine ⟨_, rfl, st, _, 0, .int a, rfl, rfl, SqL.of h3, rfl, .inl ⟨_, rfl, _, _, rfl, rfl, (show (0 : Int) < _ by decide), _, _, rfl, rfl, .inr ⟨by decide, by decide⟩, ?_⟩⟩
          refine ⟨_, rfl, _, rfl, .inl ⟨_, rfl, _, _, rfl, rfl, (show (0 : Int) < _ by decide), _, _, rfl, rfl, _, rfl, st, _, 3, .int (d + 1), rfl, rfl, SqL.of h3, rfl, _, _, rfl, rfl, .inl ⟨by decide, by decide⟩, _, _, rfl, rfl, _, _, rfl, rfl, ?_⟩⟩
          refine ⟨_, rfl, .inl ⟨_, rfl, _, _, rfl, rfl, (show (0 : Int) < _ by decide), _, rfl, st, _, 0, 0, rfl, rfl, h3, rfl, ?_⟩⟩
          rw [upd_upd]
          refine ⟨_, rfl, st, _, 0, _, rfl, rfl, SqL.of upd_same, rfl, _, _, rfl, rfl, .inr ⟨by decide, by decide⟩, _, rfl, st, _, 3, .int (d + 1), rfl, rfl, SqL.of upd_same, rfl, _, _, rfl, rfl, .inl ⟨_, rfl, _, _, rfl, rfl, (show (0 : Int) < _ by decide), ?_⟩⟩
          exact ⟨_, rfl, _, _, rfl, rfl, ⟨by decide, by decide⟩, .inl ⟨_, rfl, _, rfl, _, _, rfl, rfl, by omega, fin _ _ _ _⟩⟩
    · refine iteFd (fun z => hb (by injection z)) ?_
      refine ⟨_, rfl, st, _, 1, 1, rfl, rfl, h1, rfl, ?_⟩
      rw [upd_upd]
      have h2 : StL (upd H st (.lst ([V.int a, .int b, .int c, .int (d + 1)].set 1 (.int 0)))) st a 0 c (d + 1) := upd_same
      refine ⟨_, rfl, s, _, rfl, .inl (sqL_upd hs hne), _, _, rfl, rfl, _, rfl, ?_⟩
      by_cases hl : 0 < ns.length
      · obtain ⟨e, he⟩ := ix hl
        refine iteTd (by rw [List.length_map]; omega) ?_
        refine ⟨_, rfl, _, rfl, st, _, 2, .int c, rfl, rfl, SqL.of h2, rfl, .inl ⟨_, rfl, _, rfl, s, _, rfl, .inl (sqL_upd hs hne), _, _, rfl, rfl, by rw [List.length_map]; omega, s, _, _, .int e, rfl, rfl, sqL_upd hs hne, by rw [List.length_map]; exact he, ?_⟩⟩
        refine ⟨_, rfl, st, _, 2, .int c, rfl, rfl, SqL.of h2, rfl, _, _, rfl, rfl, _, rfl, st, _, 2, 2, rfl, rfl, h2, rfl, ?_⟩
        rw [upd_upd]
        have h3 : StL (upd H st (.lst (([V.int a, .int b, .int c, .int (d + 1)].set 1 (.int 0)).set 2 (.int (c + 1))))) st a 0 (c + 1) (d + 1) := upd_same
        refine ⟨_, rfl, st, _, 0, .int a, rfl, rfl, SqL.of h3, rfl, .inl ⟨_, rfl, _, _, rfl, rfl, (show (0 : Int) < _ by decide), _, _, rfl, rfl, .inr ⟨by decide, by decide⟩, ?_⟩⟩
        refine ⟨_, rfl, _, rfl, .inl ⟨_, rfl, _, _, rfl, rfl, (show (0 : Int) < _ by decide), _, _, rfl, rfl, _, rfl, st, _, 3, .int (d + 1), rfl, rfl, SqL.of h3, rfl, _, _, rfl, rfl, .inl ⟨by decide, by decide⟩, _, _, rfl, rfl, _, _, rfl, rfl, ?_⟩⟩
        refine ⟨_, rfl, .inl ⟨_, rfl, _, _, rfl, rfl, (show (0 : Int) < _ by decide), _, rfl, st, _, 0, 0, rfl, rfl, h3, rfl, ?_⟩⟩
        rw [upd_upd]
        refine ⟨_, rfl, st, _, 0, _, rfl, rfl, SqL.of upd_same, rfl, _, _, rfl, rfl, .inr ⟨by decide, by decide⟩, _, rfl, st, _, 3, .int (d + 1), rfl, rfl, SqL.of upd_same, rfl, _, _, rfl, rfl, .inl ⟨_, rfl, _, _, rfl, rfl, (show (0 : Int) < _ by decide), ?_⟩⟩
        exact ⟨_, rfl, _, _, rfl, rfl, ⟨by decide, by decide⟩, .inl ⟨_, rfl, _, rfl, _, _, rfl, rfl, by omega, fin _ _ _ _⟩⟩
      · refine iteFd (by rw [List.length_map]; omega) ?_
        refine ⟨_, rfl, st, _, 2, .int c, rfl, rfl, SqL.of h2, rfl, _, _, rfl, rfl, _, rfl, st, _, 2, 2, rfl, rfl, h2, rfl, ?_⟩
        rw [upd_upd]
        have h3 : StL (upd H st (.lst (([V.int a, .int b, .int c, .int (d + 1)].set 1 (.int 0)).set 2 (.int (c + 1))))) st a 0 (c + 1) (d + 1) := upd_same
        refine ⟨_, rfl, st, _, 0, .int a, rfl, rfl, SqL.of h3, rfl, .inl ⟨_, rfl, _, _, rfl, rfl, (show (0 : Int) < _ by decide), _, _, rfl, rfl, .inr ⟨by decide, by decide⟩, ?_⟩⟩
        refine ⟨_, rfl, _, rfl, .inl ⟨_, rfl, _, _, rfl, rfl, (show (0 : Int) < _ by decide), _, _, rfl, rfl, _, rfl, st, _, 3, .int (d + 1), rfl, rfl, SqL.of h3, rfl, _, _, rfl, rfl, .inl ⟨by decide, by decide⟩, _, _, rfl, rfl, _, _, rfl, rfl, ?_⟩⟩
        refine ⟨_, rfl, .inl ⟨_, rfl, _, _, rfl, rfl, (show (0 : Int) < _ by decide), _, rfl, st, _, 0, 0, rfl, rfl, h3, rfl, ?_⟩⟩
        rw [upd_upd]
        refine ⟨_, rfl, st, _, 0, _, rfl, rfl, SqL.of upd_same, rfl, _, _, rfl, rfl, .inr ⟨by decide, by decide⟩, _, rfl, st, _, 3, .int (d + 1), rfl, rfl, SqL.of upd_same, rfl, _, _, rfl, rfl, .inl ⟨_, rfl, _, _, rfl, rfl, (show (0 : Int) < _ by decide), ?_⟩⟩
        exact ⟨_, rfl, _, _, rfl, rfl, ⟨by decide, by decide⟩, .inl ⟨_, rfl, _, rfl, _, _, rfl, rfl, by omega, fin _ _ _ _⟩⟩
end
end K72

-- K72Law2
set_option Elab.async false
set_option linter.all false
set_option maxRecDepth 100000
set_option maxHeartbeats 4000000
/-! The law's own defs: chances, share. -/
namespace K72
open PySem PySem.Spec PyProof.Rows L2
/-- the same but at st -/
def Sb (st : Addr) (H H' : Hp) : Prop := ∀ a o, a ≠ st → H a = some o → H' a = some o
theorem Sb.refl {st : Addr} {H : Hp} : Sb st H H := fun _ _ _ h => h
theorem Sb.trans {st : Addr} {H H1 H2 : Hp} (a : Sb st H H1) (b : Sb st H1 H2) : Sb st H H2 := fun x o n h => b x o n (a x o n h)
theorem Sb.of {st : Addr} {H H1 : Hp} (a : Same H H1) : Sb st H H1 := fun x o _ h => a x o h
theorem Sb.upd {st : Addr} {H : Hp} {u : HO} : Sb st H (upd H st u) := fun x o n h => by rw [upd_ne n]; exact h
theorem Sb.x {st : Addr} {H H1 : Hp} {xs : List V} (e : Sb st H H1) (h : H st = some (.lst xs)) : SameX H H1 := fun a o q n => e a o (fun z => by rw [z, h] at q; cases q; exact absurd rfl (n xs)) q
theorem Sb.sqT {K : PySem.W.Frag} {st : Addr} {H H1 : Hp} {a : Addr} {xs ys : List V} (e : Sb st H H1) (h : H st = some (.lst xs)) (t : SqT K H a ys) : SqT K H1 a ys := SameX.tup (e.x h) t
theorem Sb.sqL {K : PySem.W.Frag} {st s : Addr} {H H1 : Hp} {ys : List V} (e : Sb st H H1) (hne : Ap K s st ys) (t : SqL K H s ys) : SqL K H1 s ys := by
  rcases hne with hne | hw
  · rcases t with h | h
    · refine .inl ?_
      rcases h with h | ⟨o, h⟩
      · exact .inl (e _ _ hne h)
      · exact .inr ⟨o, e _ _ hne h⟩
    · exact .inr h
  · exact hw _
abbrev Pr := Nat × Nat
structure OkPr (r : Pr) : Prop where
  u2 : 2 ≤ r.2
  u8 : r.2 ≤ 8
  half : r.2 ≤ 2 * r.1
  one : r.1 < r.2
def PrsAt (K : PySem.W.Frag) (H : Hp) (as : List Addr) (rs : List Pr) : Prop := Paired (fun a (r : Pr) => SqT K H a [vi r.1, vi r.2]) as rs
theorem PrsAt.x {K : PySem.W.Frag} {H H' : Hp} {as : List Addr} {rs : List Pr} (h : PrsAt K H as rs) (e : SameX H H') : PrsAt K H' as rs := Pd.imp (fun _ _ q => SameX.tup e q) h
section
variable {P : Program} {w : World} {K : PySem.W.Frag} {mg : Str → Option Value} {base : Heap}
def spShare (K : PySem.W.Frag) : Sp := fun vs H Q _ => ∃ (s st : Addr) (ns : List Int) (a b c d : Int), vs = [.ref s, .ref st] ∧ SqL K H s (ns.map V.int) ∧ StL H st a b c d ∧ Ap K s st (ns.map V.int) ∧ ns.length < 1000 ∧ 0 ≤ d ∧ d < 10000 ∧
  ∀ p (o u : Nat) a' b' c' d' H', H p = none → Sb st H H' → StL H' st a' b' c' d' → 0 ≤ d' → d' ≤ d + 2 → H' p = some (.tup [vi o, vi u]) → 1 ≤ u → u ≤ 8 → o ≤ u → Q (.ref p) H'
abbrev nm_law_share : List Str := ["_law_script", "_law_state", "_law_under"]
theorem sc_law_share : FnScope nm_law_share ["_law_script", "_law_state"] (defScope s__law_share) := ⟨rfl, rfl, rfl, by decide +kernel, rfl, by decide +kernel, by decide +kernel⟩
theorem r_law_share (T : Ft K mg) : CalR P w K mg base 2 "_law_share" (spShare K) := by
  refine cal_of T.g__law_share T.f__law_share sc_law_share (fun _ _ _ _ _ _ us hl => match us, hl with | [_, _], _ => rfl) (fun vs H Q E h => ?_) fun cdv A outer s0 H vs Q E hr h => ?_
  · obtain ⟨_, _, _, _, _, _, _, rfl, _⟩ := h; rfl
  · obtain ⟨s, st, ns, a, b, c, d, rfl, hs, hst, hne, hns, hd1, hd2, hq⟩ := h
    refine ⟨_, pss_cons (ps_set (i := 2) sc_law_share.nd rfl (.inl rfl) (pe_op op_add pe_int (pe_cr (r_law_draw T) hr (by decide) rfl (pa_cons (pv 0) (pa_cons (pv 1) (pa_cons pe_int pa_nil))))))
      (pss_one (ps_ret (pe_tup (pa_cons (pe_cr (r_law_draw T) hr (by decide) rfl (pa_cons (pv 0) (pa_cons (pv 1) (pa_cons (pe_op op_add (pv 2) pe_int) pa_nil)))) (pa_cons (pv 2) pa_nil))))), ?_⟩
    refine ⟨_, rfl, _, rfl, s, st, ns, a, b, c, d, 8, rfl, hs, hst, hne, hns, by decide, by decide, by omega, by omega, fun r a1 b1 c1 hr1 => ?_⟩
    have e1 : Sb st H (upd H st (.lst [.int a1, .int b1, .int c1, .int (d + 1)])) := Sb.upd
    have h1 : StL (upd H st (.lst [.int a1, .int b1, .int c1, .int (d + 1)])) st a1 b1 c1 (d + 1) := upd_same
    refine ⟨_, _, rfl, rfl, ?_⟩
    refine ⟨_, rfl, _, rfl, _, rfl, _, _, rfl, rfl, s, st, ns, a1, b1, c1, d + 1, 1 + (r : Int) + 1, rfl, e1.sqL hne hs, h1, hne, hns, by omega, by omega, by omega, by omega, fun r2 a2 b2 c2 hr2 => ?_⟩
    refine ⟨_, rfl, line_of (by show 2 ≤ 100000; decide), fun p hp => ?_⟩
    have e2 : Sb st (upd H st (.lst [.int a1, .int b1, .int c1, .int (d + 1)])) (upd (upd H st (.lst [.int a1, .int b1, .int c1, .int (d + 1)])) st (.lst [.int a2, .int b2, .int c2, .int (d + 1 + 1)])) := Sb.upd
    have hpst : p ≠ st := fun z => by rw [z, upd_same] at hp; cases hp
    have hpH : H p = none := by rw [upd_ne hpst, upd_ne hpst] at hp; exact hp
    refine hq p r2 (1 + r) a2 b2 c2 (d + 1 + 1) _ hpH ((e1.trans e2).trans (Sb.of (Same.new hp))) (by show _ = _; rw [upd_ne (Ne.symm hpst)]; exact upd_same) (by omega) (by omega) ?_ (by omega) (by omega) (by omega)
    rw [upd_same]
    show some (HO.tup [V.int (r2 : Int), V.int (1 + (r : Int))]) = some (HO.tup [V.int (r2 : Int), V.int ((1 + r : Nat) : Int)])
    rw [Int.natCast_add]; rfl
end
end K72

-- K72Law3
set_option Elab.async false
set_option linter.all false
set_option maxRecDepth 100000
set_option maxHeartbeats 4000000
/-! The law's own defs: _law_chances. -/
namespace K72
open PySem PySem.Spec PyProof.Rows L2
section
variable {P : Program} {w : World} {K : PySem.W.Frag} {mg : Str → Option Value} {base : Heap}
theorem Sb.mut {st p : Addr} {H H' : Hp} {u : HO} (e : Sb st H H') (hp : H p = none) : Sb st H (L2.upd H' p u) := fun a o n q => by rw [upd_ne (ne_of_none q hp)]; exact e a o n q
theorem two_tups {H : Hp} {q1 q2 L : Addr} {x1 x2 x3 x4 : V} (h1 : H q1 = none) (h2 : upd H q1 (.tup [x1, x2]) q2 = none) (h3 : upd (upd H q1 (.tup [x1, x2])) q2 (.tup [x3, x4]) L = none) :
    ∃ H8, H8 = upd (upd (upd H q1 (.tup [x1, x2])) q2 (.tup [x3, x4])) L (.lst [.ref q1, .ref q2]) ∧ Same H H8 ∧ H8 q1 = some (.tup [x1, x2]) ∧ H8 q2 = some (.tup [x3, x4]) ∧ H8 L = some (.lst [.ref q1, .ref q2]) ∧ H L = none := by
  have s1 := Same.new (o := .tup [x1, x2]) h1
  have s2 := Same.new (o := .tup [x3, x4]) h2
  have s3 := Same.new (o := .lst [.ref q1, .ref q2]) h3
  have s13 := (s1.trans s2).trans s3
  refine ⟨_, rfl, s13, s3 _ _ (s2 _ _ upd_same), s3 _ _ upd_same, upd_same, ?_⟩
  cases q : H L with
  | none => rfl
  | some u => have := (s1.trans s2) _ _ q; rw [h3] at this; cases this
def spLCh (K : PySem.W.Frag) : Sp := fun vs H Q _ => ∃ (s st : Addr) (ns : List Int) (a b c d : Int) (most : Nat), vs = [.ref s, .ref st, vi most] ∧ SqL K H s (ns.map V.int) ∧ StL H st a b c d ∧ Ap K s st (ns.map V.int) ∧ ns.length < 1000 ∧ 0 ≤ d ∧ d < 10000 ∧ 1 ≤ most ∧ most ≤ 4 ∧
  ∀ p as (rs : List Pr) a' b' c' d' H', H p = none → Sb st H H' → StL H' st a' b' c' d' → 0 ≤ d' → d' ≤ d + 20 → H' p = some (.lst (as.map V.ref)) → PrsAt K H' as rs → (∀ r ∈ rs, OkPr r) → 1 ≤ rs.length → rs.length ≤ most → Q (.ref p) H'
abbrev nm_law_chances : List Str := ["_law_script", "_law_state", "_law_most", "_law_kind", "_law_chances_here", "_law_k", "_law_under", "_law_least", "_law_chance"]
theorem sc_law_chances : FnScope nm_law_chances ["_law_script", "_law_state", "_law_most"] (defScope s__law_chances) := ⟨rfl, rfl, rfl, by decide +kernel, rfl, by decide +kernel, by decide +kernel⟩
theorem r_law_chances (T : Ft K mg) : CalR P w K mg base 2 "_law_chances" (spLCh K) := by
  refine cal_of T.g__law_chances T.f__law_chances sc_law_chances (fun _ _ _ _ _ _ us hl => match us, hl with | [_, _, _], _ => rfl) (fun vs H Q E h => ?_) fun cdv A outer s0 H vs Q E hr h => ?_
  · obtain ⟨_, _, _, _, _, _, _, _, rfl, _⟩ := h; rfl
  · obtain ⟨s, st, ns, a, b, c, d, most, rfl, hs, hst, hne, hns, hd1, hd2, hm1, hm4, hq⟩ := h
    refine ⟨_, pss_cons (ps_set (i := 3) sc_law_chances.nd rfl (.inl rfl) (pe_cr (r_law_draw T) hr (by decide) rfl (pa_cons (pv 0) (pa_cons (pv 1) (pa_cons pe_int pa_nil)))))
      (pss_cons (ps_set (i := 4) sc_law_chances.nd rfl (.inl rfl) (pe_lst pa_nil))
      (pss_cons (ps_for PassesOwn.never rfl (pi_range1 rfl T.z_range (pa_cons (pe_op op_add pe_int (pe_cr (r_law_draw T) hr (by decide) rfl (pa_cons (pv 0) (pa_cons (pv 1) (pa_cons (pv 2) pa_nil))))) pa_nil)) (pg_name (i := 5) sc_law_chances.nd rfl (.inl rfl))
        (pss_cons (ps_set (i := 6) sc_law_chances.nd rfl (.inl rfl) (pe_op op_add pe_int (pe_cr (r_law_draw T) hr (by decide) rfl (pa_cons (pv 0) (pa_cons (pv 1) (pa_cons pe_int pa_nil))))))
        (pss_cons (ps_set (i := 7) sc_law_chances.nd rfl (.inl rfl) (pe_op op_fdiv (pe_op op_add (pv 6) pe_int) pe_int))
        (pss_cons (ps_set (i := 8) sc_law_chances.nd rfl (.inl rfl) (pe_tup (pa_cons (pe_op op_add (pv 7) (pe_cr (r_law_draw T) hr (by decide) rfl (pa_cons (pv 0) (pa_cons (pv 1) (pa_cons (pe_op op_sub (pv 6) (pv 7)) pa_nil))))) (pa_cons (pv 6) pa_nil))))
        (pss_cons (ps_if (PW.pt (pw_and (pt_cmpR op_eq (pv 3) pe_int (nomark _)) (pw_and1 (pt_cmp (pc_gt (pv 5) pe_int))))) (pss_one (ps_set (i := 8) sc_law_chances.nd rfl (.inl rfl) (pe_ix (ix_lstK K) (pv 4) pe_int (fun _ _ => rfl)))) pss_nil)
        (pss_cons (ps_if (pt_cmpR op_eq (pv 3) pe_int (nomark _)) (pss_one (ps_set (i := 8) sc_law_chances.nd rfl (.inl rfl) (pe_ix (ix_lstK K) (pe_lst (pa_cons (pe_tup (pa_cons pe_int (pa_cons pe_int pa_nil))) (pa_cons (pe_tup (pa_cons pe_int (pa_cons pe_int pa_nil))) pa_nil)))
            (pe_cr (r_law_draw T) hr (by decide) rfl (pa_cons (pv 0) (pa_cons (pv 1) (pa_cons pe_int pa_nil)))) (fun _ _ => rfl)))) pss_nil)
        (pss_one (ps_expr (pe_bm PySem.F.plainAttrs_list PySem.F.slot_list_append PySem.F.type_list_append mt_append (pv 4) (pa_cons (pv 8) pa_nil))))))))))
      (pss_one (ps_ret (pv 4))))), ?_⟩
    refine ⟨_, rfl, _, rfl, s, st, ns, a, b, c, d, 4, rfl, hs, hst, hne, hns, by decide, by decide, by omega, by omega, fun kind a1 b1 c1 hr1 => ?_⟩
    have e1 : Sb st H (upd H st (.lst [.int a1, .int b1, .int c1, .int (d + 1)])) := Sb.upd
    have h1 : StL (upd H st (.lst [.int a1, .int b1, .int c1, .int (d + 1)])) st a1 b1 c1 (d + 1) := upd_same
    have n1 : ∀ x, upd H st (.lst [.int a1, .int b1, .int c1, .int (d + 1)]) x = none → H x = none ∧ x ≠ st := fun x hx => by
      have : x ≠ st := fun z => by rw [z, upd_same] at hx; cases hx
      rw [upd_ne this] at hx
      exact ⟨hx, this⟩
    generalize upd H st (.lst [.int a1, .int b1, .int c1, .int (d + 1)]) = H1 at e1 h1 n1
    refine ⟨line_of (by show 0 ≤ 100000; decide), fun p hp => ?_⟩
    obtain ⟨hpH, hpst⟩ := n1 p hp
    have e2 : Sb st H (upd H1 p (.lst [])) := e1.trans (Sb.of (Same.new hp))
    have h2 : StL (upd H1 p (.lst [])) st a1 b1 c1 (d + 1) := by show _ = _; rw [upd_ne (Ne.symm hpst)]; exact h1
    have p2 : (upd H1 p (.lst [])) p = some (.lst (([] : List Addr).map V.ref)) := upd_same
    generalize upd H1 p (.lst []) = H2 at e2 h2 p2
    refine ⟨_, rfl, _, rfl, _, rfl, s, st, ns, a1, b1, c1, d + 1, most, rfl, e2.sqL hne hs, h2, hne, hns, by omega, by omega, by omega, by omega, fun m a3 b3 c3 hm => ⟨_, _, rfl, rfl, ?_⟩⟩
    have e3 : Sb st H (upd H2 st (.lst [.int a3, .int b3, .int c3, .int (d + 1 + 1)])) := e2.trans Sb.upd
    have h3 : StL (upd H2 st (.lst [.int a3, .int b3, .int c3, .int (d + 1 + 1)])) st a3 b3 c3 (d + 1 + 1) := upd_same
    have p3 : (upd H2 st (.lst [.int a3, .int b3, .int c3, .int (d + 1 + 1)])) p = some (.lst (([] : List Addr).map V.ref)) := by rw [upd_ne hpst]; exact p2
    generalize upd H2 st (.lst [.int a3, .int b3, .int c3, .int (d + 1 + 1)]) = H3 at e3 h3 p3
    refine ⟨_, rfl, by omega, by omega, for_walk2 (fun i σ H' => ∃ a b c d' as rs v5 v6 v7 v8, σ = [some (.ref s), some (.ref st), some (vi most), some (.int (kind : Int)), some (.ref p), v5, v6, v7, v8] ∧ Sb st H H' ∧ StL H' st a b c d' ∧ 0 ≤ d' ∧ d' ≤ d + 2 + 3 * i ∧ H' p = some (.lst (as.map V.ref)) ∧ PrsAt K H' as rs ∧ (∀ r ∈ rs, OkPr r) ∧ rs.length = i)
      ⟨a3, b3, c3, d + 1 + 1, [], [], none, none, none, none, rfl, e3, h3, by omega, by omega, p3, .nil, (fun r hr => nomatch hr), rfl⟩ (fun i σ H' _ => walk_rng) ?_ ?_⟩
    · rintro i y σ H4 hy ⟨a4, b4, c4, d4, as, rs, v5, v6, v7, v8, rfl, e4, h4, hd41, hd42, p4, hrs, hok, hlen⟩
      obtain ⟨hi, hy2⟩ : i < 1 + m ∧ y = V.int ((i : Nat) : Int) := by
        obtain ⟨q1, q2⟩ := List.getElem?_eq_some_iff.mp hy
        rw [List.length_map, List.length_range] at q1
        refine ⟨by omega, ?_⟩
        rw [← q2, List.getElem_map, List.getElem_range]
        rw [Int.zero_add]
      subst hy2
      have hi4 : i < 4 := by omega
      refine ⟨_, rfl, _, rfl, s, st, ns, a4, b4, c4, d4, 7, rfl, e4.sqL hne hs, h4, hne, hns, by decide, by decide, by omega, by omega, fun r1 a5 b5 c5 hr1 => ⟨_, _, rfl, rfl, ?_⟩⟩
      have e5 : Sb st H4 (upd H4 st (.lst [.int a5, .int b5, .int c5, .int (d4 + 1)])) := Sb.upd
      have h5 : StL (upd H4 st (.lst [.int a5, .int b5, .int c5, .int (d4 + 1)])) st a5 b5 c5 (d4 + 1) := upd_same
      generalize upd H4 st (.lst [.int a5, .int b5, .int c5, .int (d4 + 1)]) = H5 at e5 h5
      refine ⟨_, rfl, _, _, rfl, rfl, _, _, rfl, rfl, ⟨by decide, by decide⟩, ?_⟩
      have e45 := e4.trans e5
      refine ⟨_, rfl, _, rfl, _, rfl, _, rfl, _, rfl, _, _, rfl, rfl, s, st, ns, a5, b5, c5, d4 + 1, _, rfl, e45.sqL hne hs, h5, hne, hns, by omega, by omega, by omega, by omega, fun r2 a6 b6 c6 hr2 => ⟨_, _, rfl, rfl, ?_⟩⟩
      have e6 : Sb st H5 (upd H5 st (.lst [.int a6, .int b6, .int c6, .int (d4 + 1 + 1)])) := Sb.upd
      have h6 : StL (upd H5 st (.lst [.int a6, .int b6, .int c6, .int (d4 + 1 + 1)])) st a6 b6 c6 (d4 + 1 + 1) := upd_same
      generalize upd H5 st (.lst [.int a6, .int b6, .int c6, .int (d4 + 1 + 1)]) = H6 at e6 h6
      have e46 := e5.trans e6
      refine ⟨_, rfl, line_of (by show 2 ≤ 100000; decide), fun q hq6 => ?_⟩
      have hqst : q ≠ st := fun z => by rw [z, h6] at hq6; cases hq6
      have e7 : Same H6 (upd H6 q (.tup [.int ((2 + (r1 : Int) + 1) / 2 + (r2 : Int)), .int (2 + (r1 : Int))])) := Same.new hq6
      have q7 : (upd H6 q (.tup [.int ((2 + (r1 : Int) + 1) / 2 + (r2 : Int)), .int (2 + (r1 : Int))])) q = some (.tup [vi ((2 + r1 + 1) / 2 + r2), vi (2 + r1)]) := by
        rw [upd_same]
        show some (HO.tup [V.int ((2 + (r1 : Int) + 1) / 2 + (r2 : Int)), V.int (2 + (r1 : Int))]) = some (HO.tup [V.int (((2 + r1 + 1) / 2 + r2 : Nat) : Int), V.int ((2 + r1 : Nat) : Int)])
        push_cast
        rfl
      have okq : OkPr ((2 + r1 + 1) / 2 + r2, 2 + r1) := ⟨by show 2 ≤ 2 + r1; omega, by show 2 + r1 ≤ 8; omega, by show 2 + r1 ≤ 2 * ((2 + r1 + 1) / 2 + r2); omega, by show (2 + r1 + 1) / 2 + r2 < 2 + r1; omega⟩
      generalize upd H6 q (.tup [.int ((2 + (r1 : Int) + 1) / 2 + (r2 : Int)), .int (2 + (r1 : Int))]) = H7 at e7 q7
      have e47 := e46.trans (Sb.of e7)
      have h7 : StL H7 st a6 b6 c6 (d4 + 1 + 1) := e7 _ _ h6
      have p7 := e47 _ _ hpst p4
      have hrs7 : PrsAt K H7 as rs := hrs.x (e47.x h4)
      have e07 := e4.trans e47
      have sq7 : SqT K H7 q [vi ((2 + r1 + 1) / 2 + r2), vi (2 + r1)] := SqT.of q7
      have hrl : as.length = rs.length := Pd.len hrs
      refine ⟨_, rfl, rfl, _, rfl, ?_⟩
      by_cases hk0 : V.int (kind : Int) = V.int 0
      · refine iteTd hk0 ?_
        refine ⟨_, rfl, _, _, rfl, rfl, _, rfl, ?_⟩
        by_cases hi0 : (0 : Int) < (i : Nat)
        · refine iteTd hi0 ?_
          obtain ⟨y0, as', hasy⟩ : ∃ y0 as', as = y0 :: as' := by
            cases as with
            | nil => exfalso; simp only [List.length_nil] at hrl; omega
            | cons y0 as' => exact ⟨y0, as', rfl⟩
          obtain ⟨r0, hr0, hsq0⟩ := Pd.at (pd_swap hrs7) (i := 0) (b := y0) (by rw [hasy]; rfl)
          have ok0 := hok r0 (List.mem_of_getElem? hr0)
          refine ⟨_, rfl, p, _, 0, .ref y0, rfl, rfl, SqL.of p7, by rw [hasy]; simp [atI, ixN], ?_⟩
          refine ⟨_, rfl, rfl, _, rfl, ?_⟩
          by_cases hk1 : V.int (kind : Int) = V.int 1
          · refine iteTd hk1 ?_
            refine ⟨line_of (by show 2 ≤ 100000; decide), fun q1 hq1 => ⟨line_of (by show 2 ≤ 100000; decide), fun q2 hq2 => ⟨line_of (by show 2 ≤ 100000; decide), fun L hL => ?_⟩⟩⟩
            obtain ⟨H8, eH8, e8, t1, t2, tL, hLn⟩ := two_tups hq1 hq2 hL
            subst eH8
            have hq1st : q1 ≠ st := fun z => by rw [z, h7] at hq1; cases hq1
            have hLst : L ≠ st := fun z => by rw [z, h7] at hLn; cases hLn
            have h8 := e8 _ _ h7
            have hq2st : q2 ≠ st := fun z => by subst z; rw [h8] at t2; cases t2
            refine ⟨_, rfl, _, rfl, s, st, ns, a6, b6, c6, d4 + 1 + 1, 2, rfl, (e07.trans (Sb.of e8)).sqL hne hs, h8, hne, hns, by decide, by decide, by omega, by omega, fun r3 a8 b8 c8 hr3 => ?_⟩
            have e89 := Sb.upd (st := st) (H := upd (upd (upd H7 q1 (.tup [V.int 1, V.int 2])) q2 (.tup [V.int 3, V.int 4])) L (.lst [V.ref q1, V.ref q2])) (u := .lst [.int a8, .int b8, .int c8, .int (d4 + 1 + 1 + 1)])
            have e79 := (Sb.of (st := st) e8).trans e89
            have h9 : StL _ st a8 b8 c8 (d4 + 1 + 1 + 1) := upd_same (H := upd (upd (upd H7 q1 (.tup [V.int 1, V.int 2])) q2 (.tup [V.int 3, V.int 4])) L (.lst [V.ref q1, V.ref q2]))
            have p9 := e79 _ _ hpst p7
            have t19 := e89 _ _ hq1st t1
            have t29 := e89 _ _ hq2st t2
            have tL9 := e89 _ _ hLst tL
            have hrs9 := hrs7.x (e79.x h7)
            have e09 := e07.trans e79
            have h01 : r3 = 0 ∨ r3 = 1 := by omega
            rcases h01 with rfl | rfl
            · refine ⟨L, _, _, .ref q1, rfl, rfl, SqL.of tL9, rfl, ?_⟩
              refine ⟨_, rfl, .inl ⟨rfl, _, SqL.of p9⟩, _, rfl, p, _, _, rfl, rfl, p9, line_lt (by rw [List.length_map]; omega), ?_⟩
              exact ⟨a8, b8, c8, d4 + 1 + 1 + 1, as ++ [q1], rs ++ [(1, 2)], _, _, _, _, rfl, Sb.mut e09 hpH, by show _ = _; rw [upd_ne (Ne.symm hpst)]; exact h9, by omega, by omega, by rw [upd_same, List.map_append]; rfl, Pd.snoc (hrs9.x (SameX.lst p9)) (SameX.tup (SameX.lst p9) (SqT.of t19)), fun x hx => (List.mem_append.mp hx).elim (hok x) (fun z => by rw [List.mem_singleton.mp z]; exact ⟨by decide, by decide, by decide, by decide⟩), by rw [List.length_append, hlen]; rfl⟩
            · refine ⟨L, _, _, .ref q2, rfl, rfl, SqL.of tL9, rfl, ?_⟩
              refine ⟨_, rfl, .inl ⟨rfl, _, SqL.of p9⟩, _, rfl, p, _, _, rfl, rfl, p9, line_lt (by rw [List.length_map]; omega), ?_⟩
              exact ⟨a8, b8, c8, d4 + 1 + 1 + 1, as ++ [q2], rs ++ [(3, 4)], _, _, _, _, rfl, Sb.mut e09 hpH, by show _ = _; rw [upd_ne (Ne.symm hpst)]; exact h9, by omega, by omega, by rw [upd_same, List.map_append]; rfl, Pd.snoc (hrs9.x (SameX.lst p9)) (SameX.tup (SameX.lst p9) (SqT.of t29)), fun x hx => (List.mem_append.mp hx).elim (hok x) (fun z => by rw [List.mem_singleton.mp z]; exact ⟨by decide, by decide, by decide, by decide⟩), by rw [List.length_append, hlen]; rfl⟩
          · refine iteFd hk1 ?_
            refine ⟨_, rfl, .inl ⟨rfl, _, SqL.of p7⟩, _, rfl, p, _, _, rfl, rfl, p7, line_lt (by rw [List.length_map]; omega), ?_⟩
            exact ⟨a6, b6, c6, d4 + 1 + 1, as ++ [y0], rs ++ [r0], _, _, _, _, rfl, Sb.mut e07 hpH, by show _ = _; rw [upd_ne (Ne.symm hpst)]; exact h7, by omega, by omega, by rw [upd_same, List.map_append]; rfl, Pd.snoc (hrs7.x (SameX.lst p7)) (SameX.tup (SameX.lst p7) hsq0), fun x hx => (List.mem_append.mp hx).elim (hok x) (fun z => by rw [List.mem_singleton.mp z]; exact ok0), by rw [List.length_append, hlen]; rfl⟩
        · refine iteFd hi0 ?_
          refine ⟨_, rfl, rfl, _, rfl, ?_⟩
          by_cases hk1 : V.int (kind : Int) = V.int 1
          · refine iteTd hk1 ?_
            refine ⟨line_of (by show 2 ≤ 100000; decide), fun q1 hq1 => ⟨line_of (by show 2 ≤ 100000; decide), fun q2 hq2 => ⟨line_of (by show 2 ≤ 100000; decide), fun L hL => ?_⟩⟩⟩
            obtain ⟨H8, eH8, e8, t1, t2, tL, hLn⟩ := two_tups hq1 hq2 hL
            subst eH8
            have hq1st : q1 ≠ st := fun z => by rw [z, h7] at hq1; cases hq1
            have hLst : L ≠ st := fun z => by rw [z, h7] at hLn; cases hLn
            have h8 := e8 _ _ h7
            have hq2st : q2 ≠ st := fun z => by subst z; rw [h8] at t2; cases t2
            refine ⟨_, rfl, _, rfl, s, st, ns, a6, b6, c6, d4 + 1 + 1, 2, rfl, (e07.trans (Sb.of e8)).sqL hne hs, h8, hne, hns, by decide, by decide, by omega, by omega, fun r3 a8 b8 c8 hr3 => ?_⟩
            have e89 := Sb.upd (st := st) (H := upd (upd (upd H7 q1 (.tup [V.int 1, V.int 2])) q2 (.tup [V.int 3, V.int 4])) L (.lst [V.ref q1, V.ref q2])) (u := .lst [.int a8, .int b8, .int c8, .int (d4 + 1 + 1 + 1)])
            have e79 := (Sb.of (st := st) e8).trans e89
            have h9 : StL _ st a8 b8 c8 (d4 + 1 + 1 + 1) := upd_same (H := upd (upd (upd H7 q1 (.tup [V.int 1, V.int 2])) q2 (.tup [V.int 3, V.int 4])) L (.lst [V.ref q1, V.ref q2]))
            have p9 := e79 _ _ hpst p7
            have t19 := e89 _ _ hq1st t1
            have t29 := e89 _ _ hq2st t2
            have tL9 := e89 _ _ hLst tL
            have hrs9 := hrs7.x (e79.x h7)
            have e09 := e07.trans e79
            have h01 : r3 = 0 ∨ r3 = 1 := by omega
            rcases h01 with rfl | rfl
            · refine ⟨L, _, _, .ref q1, rfl, rfl, SqL.of tL9, rfl, ?_⟩
              refine ⟨_, rfl, .inl ⟨rfl, _, SqL.of p9⟩, _, rfl, p, _, _, rfl, rfl, p9, line_lt (by rw [List.length_map]; omega), ?_⟩
              exact ⟨a8, b8, c8, d4 + 1 + 1 + 1, as ++ [q1], rs ++ [(1, 2)], _, _, _, _, rfl, Sb.mut e09 hpH, by show _ = _; rw [upd_ne (Ne.symm hpst)]; exact h9, by omega, by omega, by rw [upd_same, List.map_append]; rfl, Pd.snoc (hrs9.x (SameX.lst p9)) (SameX.tup (SameX.lst p9) (SqT.of t19)), fun x hx => (List.mem_append.mp hx).elim (hok x) (fun z => by rw [List.mem_singleton.mp z]; exact ⟨by decide, by decide, by decide, by decide⟩), by rw [List.length_append, hlen]; rfl⟩
            · refine ⟨L, _, _, .ref q2, rfl, rfl, SqL.of tL9, rfl, ?_⟩
              refine ⟨_, rfl, .inl ⟨rfl, _, SqL.of p9⟩, _, rfl, p, _, _, rfl, rfl, p9, line_lt (by rw [List.length_map]; omega), ?_⟩
              exact ⟨a8, b8, c8, d4 + 1 + 1 + 1, as ++ [q2], rs ++ [(3, 4)], _, _, _, _, rfl, Sb.mut e09 hpH, by show _ = _; rw [upd_ne (Ne.symm hpst)]; exact h9, by omega, by omega, by rw [upd_same, List.map_append]; rfl, Pd.snoc (hrs9.x (SameX.lst p9)) (SameX.tup (SameX.lst p9) (SqT.of t29)), fun x hx => (List.mem_append.mp hx).elim (hok x) (fun z => by rw [List.mem_singleton.mp z]; exact ⟨by decide, by decide, by decide, by decide⟩), by rw [List.length_append, hlen]; rfl⟩
          · refine iteFd hk1 ?_
            refine ⟨_, rfl, .inl ⟨rfl, _, SqL.of p7⟩, _, rfl, p, _, _, rfl, rfl, p7, line_lt (by rw [List.length_map]; omega), ?_⟩
            exact ⟨a6, b6, c6, d4 + 1 + 1, as ++ [q], rs ++ [((2 + r1 + 1) / 2 + r2, 2 + r1)], _, _, _, _, rfl, Sb.mut e07 hpH, by show _ = _; rw [upd_ne (Ne.symm hpst)]; exact h7, by omega, by omega, by rw [upd_same, List.map_append]; rfl, Pd.snoc (hrs7.x (SameX.lst p7)) (SameX.tup (SameX.lst p7) sq7), fun x hx => (List.mem_append.mp hx).elim (hok x) (fun z => by rw [List.mem_singleton.mp z]; exact okq), by rw [List.length_append, hlen]; rfl⟩
      · refine iteFd hk0 ?_
        refine ⟨_, rfl, rfl, _, rfl, ?_⟩
        by_cases hk1 : V.int (kind : Int) = V.int 1
        · refine iteTd hk1 ?_
          refine ⟨line_of (by show 2 ≤ 100000; decide), fun q1 hq1 => ⟨line_of (by show 2 ≤ 100000; decide), fun q2 hq2 => ⟨line_of (by show 2 ≤ 100000; decide), fun L hL => ?_⟩⟩⟩
          obtain ⟨H8, eH8, e8, t1, t2, tL, hLn⟩ := two_tups hq1 hq2 hL
          subst eH8
          have hq1st : q1 ≠ st := fun z => by rw [z, h7] at hq1; cases hq1
          have hLst : L ≠ st := fun z => by rw [z, h7] at hLn; cases hLn
          have h8 := e8 _ _ h7
          have hq2st : q2 ≠ st := fun z => by subst z; rw [h8] at t2; cases t2
          refine ⟨_, rfl, _, rfl, s, st, ns, a6, b6, c6, d4 + 1 + 1, 2, rfl, (e07.trans (Sb.of e8)).sqL hne hs, h8, hne, hns, by decide, by decide, by omega, by omega, fun r3 a8 b8 c8 hr3 => ?_⟩
          have e89 := Sb.upd (st := st) (H := upd (upd (upd H7 q1 (.tup [V.int 1, V.int 2])) q2 (.tup [V.int 3, V.int 4])) L (.lst [V.ref q1, V.ref q2])) (u := .lst [.int a8, .int b8, .int c8, .int (d4 + 1 + 1 + 1)])
          have e79 := (Sb.of (st := st) e8).trans e89
          have h9 : StL _ st a8 b8 c8 (d4 + 1 + 1 + 1) := upd_same (H := upd (upd (upd H7 q1 (.tup [V.int 1, V.int 2])) q2 (.tup [V.int 3, V.int 4])) L (.lst [V.ref q1, V.ref q2]))
          have p9 := e79 _ _ hpst p7
          have t19 := e89 _ _ hq1st t1
          have t29 := e89 _ _ hq2st t2
          have tL9 := e89 _ _ hLst tL
          have hrs9 := hrs7.x (e79.x h7)
          have e09 := e07.trans e79
          have h01 : r3 = 0 ∨ r3 = 1 := by omega
          rcases h01 with rfl | rfl
          · refine ⟨L, _, _, .ref q1, rfl, rfl, SqL.of tL9, rfl, ?_⟩
            refine ⟨_, rfl, .inl ⟨rfl, _, SqL.of p9⟩, _, rfl, p, _, _, rfl, rfl, p9, line_lt (by rw [List.length_map]; omega), ?_⟩
            exact ⟨a8, b8, c8, d4 + 1 + 1 + 1, as ++ [q1], rs ++ [(1, 2)], _, _, _, _, rfl, Sb.mut e09 hpH, by show _ = _; rw [upd_ne (Ne.symm hpst)]; exact h9, by omega, by omega, by rw [upd_same, List.map_append]; rfl, Pd.snoc (hrs9.x (SameX.lst p9)) (SameX.tup (SameX.lst p9) (SqT.of t19)), fun x hx => (List.mem_append.mp hx).elim (hok x) (fun z => by rw [List.mem_singleton.mp z]; exact ⟨by decide, by decide, by decide, by decide⟩), by rw [List.length_append, hlen]; rfl⟩
          · refine ⟨L, _, _, .ref q2, rfl, rfl, SqL.of tL9, rfl, ?_⟩
            refine ⟨_, rfl, .inl ⟨rfl, _, SqL.of p9⟩, _, rfl, p, _, _, rfl, rfl, p9, line_lt (by rw [List.length_map]; omega), ?_⟩
            exact ⟨a8, b8, c8, d4 + 1 + 1 + 1, as ++ [q2], rs ++ [(3, 4)], _, _, _, _, rfl, Sb.mut e09 hpH, by show _ = _; rw [upd_ne (Ne.symm hpst)]; exact h9, by omega, by omega, by rw [upd_same, List.map_append]; rfl, Pd.snoc (hrs9.x (SameX.lst p9)) (SameX.tup (SameX.lst p9) (SqT.of t29)), fun x hx => (List.mem_append.mp hx).elim (hok x) (fun z => by rw [List.mem_singleton.mp z]; exact ⟨by decide, by decide, by decide, by decide⟩), by rw [List.length_append, hlen]; rfl⟩
        · refine iteFd hk1 ?_
          refine ⟨_, rfl, .inl ⟨rfl, _, SqL.of p7⟩, _, rfl, p, _, _, rfl, rfl, p7, line_lt (by rw [List.length_map]; omega), ?_⟩
          exact ⟨a6, b6, c6, d4 + 1 + 1, as ++ [q], rs ++ [((2 + r1 + 1) / 2 + r2, 2 + r1)], _, _, _, _, rfl, Sb.mut e07 hpH, by show _ = _; rw [upd_ne (Ne.symm hpst)]; exact h7, by omega, by omega, by rw [upd_same, List.map_append]; rfl, Pd.snoc (hrs7.x (SameX.lst p7)) (SameX.tup (SameX.lst p7) sq7), fun x hx => (List.mem_append.mp hx).elim (hok x) (fun z => by rw [List.mem_singleton.mp z]; exact okq), by rw [List.length_append, hlen]; rfl⟩
    · rintro σ H4 ⟨a4, b4, c4, d4, as, rs, v5, v6, v7, v8, rfl, e4, h4, hd41, hd42, p4, hrs, hok, hlen⟩
      rw [List.length_map, List.length_range] at hlen hd42
      exact ⟨_, rfl, hq p as rs a4 b4 c4 d4 H4 hpH e4 h4 hd41 (by omega) p4 hrs hok (by omega) (by omega)⟩
end
end K72

-- K72Law4
set_option Elab.async false
set_option linter.all false
set_option maxRecDepth 100000
set_option maxHeartbeats 4000000
/-! The law's own defs: _law_ratios, _law_made. -/
namespace K72
open PySem PySem.Spec PyProof.Rows L2
theorem OkPr.norm {r : Pr} {o u : Int} (h : OkPr r) (n : Norm (r.1 : Nat) (r.2 : Nat) o u) : OkC1 (o, u) := by
  have hp := n.ok.pos
  have he := n.eq
  have h2 := h.u2
  have hh : ((r.2 : Nat) : Int) ≤ 2 * (r.1 : Nat) := by have := h.half; omega
  have h1 : ((r.1 : Nat) : Int) < (r.2 : Nat) := by have := h.one; omega
  have hb : (0 : Int) < (r.2 : Nat) := by omega
  refine ⟨n.ok, ?_, ?_, ?_⟩
  · show u ≤ 2 * o
    have : u * (r.2 : Nat) ≤ (2 * o) * (r.2 : Nat) := by
      rw [Int.mul_assoc, he, Int.mul_comm u, ← Int.mul_assoc]
      exact Int.mul_le_mul_of_nonneg_right hh (by omega)
    exact Int.le_of_mul_le_mul_right this hb
  · show o < u
    have : o * (r.2 : Nat) < u * (r.2 : Nat) := by
      rw [he, Int.mul_comm u]
      exact Int.mul_lt_mul_of_pos_right h1 hp
    exact Int.lt_of_mul_lt_mul_right this (by omega)
  · show u ≤ 8
    have := n.le
    have := h.u8
    omega
section
variable {P : Program} {w : World} {K : PySem.W.Frag} {mg : Str → Option Value} {base : Heap}
def spLRat (K : PySem.W.Frag) : Sp := fun vs H Q _ => ∃ (p : Addr) (as : List Addr) (rs : List Pr), vs = [.ref p] ∧ SqL K H p (as.map V.ref) ∧ PrsAt K H as rs ∧ (∀ r ∈ rs, OkPr r) ∧ rs.length ≤ 4 ∧
  ∀ D bs (cs : List Rt) H', H D = none → Same H H' → H' D = some (.lst (bs.map V.ref)) → RatsAt K H' bs cs → (∀ c ∈ cs, OkC1 c) → cs.length = rs.length → Q (.ref D) H'
abbrev nm_law_ratios : List Str := ["_law_chances_here", "_law_chance"]
theorem sc_law_ratios : FnScope nm_law_ratios ["_law_chances_here"] (defScope s__law_ratios) := ⟨rfl, rfl, rfl, by decide +kernel, rfl, by decide +kernel, by decide +kernel⟩
theorem rat_out {H : Hp} : ∀ {rs : List Pr} {ys : List V}, Paired (fun (r : Pr) y => ∃ (a : Addr) (c : Rt), y = V.ref a ∧ RatAt K H a c.1 c.2 ∧ OkC1 c) rs ys → ∃ (bs : List Addr) (cs : List Rt), ys = bs.map V.ref ∧ RatsAt K H bs cs ∧ (∀ c ∈ cs, OkC1 c) ∧ cs.length = rs.length
  | _, _, .nil => ⟨[], [], rfl, .nil, (fun c h => nomatch h), rfl⟩
  | _, _, .cons ⟨a, c, e, r, ok⟩ t => by
    obtain ⟨bs, cs, e2, r2, ok2, l2⟩ := rat_out t
    exact ⟨a :: bs, c :: cs, by rw [e, e2]; rfl, .cons r r2, fun x hx => (List.mem_cons.mp hx).elim (fun z => by rw [z]; exact ok) (ok2 x), by rw [List.length_cons, List.length_cons, l2]⟩
theorem r_law_ratios (T : Ft K mg) : CalR P w K mg base 6 "_law_ratios" (spLRat K) := by
  refine cal_of T.g__law_ratios T.f__law_ratios sc_law_ratios (fun _ _ _ _ _ _ us hl => match us, hl with | [_], _ => rfl) (fun vs H Q E h => ?_) fun cdv A outer s0 H vs Q E hr h => ?_
  · obtain ⟨_, _, _, rfl, _⟩ := h; rfl
  · obtain ⟨p, as, rs, rfl, hp, hrs, hok, h4, hq⟩ := h
    have hl := Pd.len hrs
    refine ⟨_, pss_one (ps_ret (pe_lc (own := [("_law_chance", 1)]) (g := gName 1) rfl sc_law_ratios.nd (pi_list (pv 0)) (blkOk_by (N := nm_law_ratios) (sc := defScope s__law_ratios) (by decide +kernel)) (fun _ _ _ _ _ => pg_name (i := 1) sc_law_ratios.nd rfl (.inl rfl))
          (fun _ _ _ _ _ => pts_nil) (fun _ _ _ _ _ => pe_kr (mk_rat T) hr (by decide) rfl (pa_cons (pe_ix (ix_tupK K) (pv 1) pe_int (fun _ _ => rfl)) (pa_cons (pe_ix (ix_tupK K) (pv 1) pe_int (fun _ _ => rfl)) pa_nil))))), ?_⟩
    refine ⟨_, rfl, p, rfl, ⟨_, hp⟩, ?_⟩
    refine fun D hD => lc_pure (zs := rs) (I := fun z x => ∃ a : Addr, x = V.ref a ∧ SqT K H a [vi z.1, vi z.2]) (fun _ => true) (fun z y H' => ∃ (a : Addr) (c : Rt), y = V.ref a ∧ RatAt K H' a c.1 c.2 ∧ OkC1 c) (fun z v H H' e h => by
        obtain ⟨a, c, q1, q2, q3⟩ := h
        exact ⟨a, c, q1, q2.x e, q3⟩)
      (walk_lst hp) (pd_swap (pd_mapL (Pd.imp (fun a b h => ⟨a, rfl, h⟩) hrs))) (by rw [List.length_map]; omega) (fun _ => rfl) (fun z x H1 e1 hz hI Q' q' => q' _ (Same.refl _)) ?_ hD ?_
    · rintro z y H2 e2 m ⟨a, rfl, ha⟩ _ Q' q'
      have ha2 := Same.tup e2 ha
      have okz := hok z m
      have := okz.u2
      have := okz.u8
      refine ⟨_, rfl, a, _, 0, vi z.1, rfl, rfl, ha2, rfl, _, rfl, a, _, 1, vi z.2, rfl, rfl, ha2, rfl, ?_⟩
      exact rat_k ⟨(z.1 : Nat), (z.2 : Nat), rfl, by omega, by omega, fun x H3 o u hx e n r => q' _ _ e ⟨x, (o, u), rfl, r, okz.norm n⟩⟩
    · intro H' ys e hys hp2
      rw [List.filter_eq_self.mpr (fun _ _ => rfl)] at hp2
      obtain ⟨bs, cs, rfl, r2, ok2, l2⟩ := rat_out hp2
      exact hq D bs cs H' hD e hys r2 ok2 l2
end
end K72

-- K72Law5
set_option Elab.async false
set_option linter.all false
set_option maxRecDepth 100000
set_option maxHeartbeats 4000000
/-! The law's own defs: _law_made. -/
namespace K72
open PySem PySem.Spec PyProof.Rows L2
theorem OkC.take {cs : List Rt} (h : ∀ c ∈ cs, OkC1 c) (h4 : cs.length ≤ 4) {i : Nat} (h0 : cs ≠ []) : OkC (cs.take (i + 1)) where
  n1 := by
    cases cs with
    | nil => exact absurd rfl h0
    | cons x r => simp
  n4 := by rw [List.length_take]; omega
  all := fun c hc => h c (List.mem_of_mem_take hc)
section
variable {P : Program} {w : World} {K : PySem.W.Frag} {mg : Str → Option Value} {base : Heap}
theorem sl_lstK (K : PySem.W.Frag) {X : Cx} (h : X.K = K := by rfl) : SlR X (rSlL K) := by subst h; exact sl_list
def spLMade (K : PySem.W.Frag) : Sp := fun vs H Q _ => ∃ (p : Addr) (as : List Addr) (rs : List Pr), vs = [.ref p] ∧ SqL K H p (as.map V.ref) ∧ PrsAt K H as rs ∧ (∀ r ∈ rs, OkPr r) ∧ 1 ≤ rs.length ∧ rs.length ≤ 4 ∧
  ∀ x (cs : List Rt) H', Same H H' → ChAt K H' x cs → OkC cs → cs.length = rs.length → Q (.ref x) H'
abbrev nm_law_made : List Str := ["_law_chances_here", "_law_ratios_here", "_law_made_here", "_law_ratio"]
theorem sc_law_made : FnScope nm_law_made ["_law_chances_here"] (defScope s__law_made) := ⟨rfl, rfl, rfl, by decide +kernel, rfl, by decide +kernel, by decide +kernel⟩
theorem r_law_made (T : Ft K mg) : CalR P w K mg base 11 "_law_made" (spLMade K) := by
  refine cal_of T.g__law_made T.f__law_made sc_law_made (fun _ _ _ _ _ _ us hl => match us, hl with | [_], _ => rfl) (fun vs H Q E h => ?_) fun cdv A outer s0 H vs Q E hr h => ?_
  · obtain ⟨_, _, _, rfl, _⟩ := h; rfl
  · obtain ⟨p, as, rs, rfl, hp, hrs, hok, h1, h4, hq⟩ := h
    refine ⟨_, pss_cons (ps_set (i := 1) sc_law_made.nd rfl (.inl rfl) (pe_cr (r_law_ratios T) hr (by decide) rfl (pa_cons (pv 0) pa_nil)))
      (pss_cons (ps_set (i := 2) sc_law_made.nd rfl (.inl rfl) (pe_kr (mk_ch T) hr (by decide) rfl (pa_cons (pe_ix (ix_lstK K) (pv 1) pe_int (fun _ _ => rfl)) pa_nil)))
      (pss_cons (ps_for PassesOwn.never rfl (pi_list (pe_slice (sl_lstK K) (pv 1) (po_some pe_int) po_none)) (pg_name (i := 3) sc_law_made.nd rfl (.inl rfl))
        (pss_one (ps_set (i := 2) sc_law_made.nd rfl (.inl rfl) (pe_op (op_binI (m_chadd T) T.first_Chances rfl hr (by decide)) (pv 2) (pe_kr (mk_ch T) hr (by decide) rfl (pa_cons (pv 3) pa_nil))))))
      (pss_one (ps_ret (pv 2))))), ?_⟩
    refine ⟨_, rfl, p, as, rs, rfl, hp, hrs, hok, h4, fun D bs cs H1 hD e1 hD1 hc okc hlen => ?_⟩
    have hne : cs ≠ [] := fun z => by rw [z] at hlen; simp only [List.length_nil] at hlen; omega
    have hbl : bs.length = cs.length := Pd.len hc
    obtain ⟨c0, cs', hcs⟩ : ∃ c0 cs', cs = c0 :: cs' := by
      cases cs with
      | nil => exact absurd rfl hne
      | cons a b => exact ⟨a, b, rfl⟩
    obtain ⟨b0, bs', hbs⟩ : ∃ b0 bs', bs = b0 :: bs' := by
      cases bs with
      | nil => rw [hcs] at hbl; cases hbl
      | cons a b => exact ⟨a, b, rfl⟩
    have hr0 : RatAt K H1 b0 c0.1 c0.2 := by
      rw [hcs, hbs] at hc
      cases hc with
      | cons a t => exact a
    refine ⟨_, rfl, D, _, 0, .ref b0, rfl, rfl, SqL.of hD1, by rw [hbs]; simp [atI, ixN], ?_⟩
    have ok0 : OkC [c0] := by
      have := OkC.take okc (by omega) (i := 0) hne
      rw [hcs] at this
      exact this
    refine ch_k ⟨[b0], [c0], rfl, .cons hr0 .nil, ok0, fun x H2 hx e2 hch => ?_⟩
    have hD2 := e2 _ _ hD1
    refine ⟨_, rfl, 1, rfl, D, _, rfl, SqL.of hD2, fun L hL => ?_⟩
    have hcut : cutV (bs.map V.ref) (some 1) none = bs'.map V.ref := by
      rw [hbs]
      simp [cutV, HT.sIx]
      exact List.take_of_length_le (by rw [List.length_map]; exact Nat.le_refl _)
    rw [hcut]
    have e3 : Same H2 (upd H2 L (.lst (bs'.map V.ref))) := Same.new hL
    have hL3 : (upd H2 L (.lst (bs'.map V.ref))) L = some (.lst (bs'.map V.ref)) := upd_same
    generalize upd H2 L (.lst (bs'.map V.ref)) = H3 at e3 hL3
    have e03 := (e1.trans e2).trans e3
    refine ⟨L, rfl, ⟨_, SqL.of hL3⟩, for_walk (walk_lst (SqL.of hL3)) (fun i σ H' => Same H3 H' ∧ ∃ x v3, σ = [some (.ref p), some (.ref D), some (.ref x), v3] ∧ ChAt K H' x (cs.take (i + 1))) ⟨Same.refl _, x, none, rfl, by rw [hcs]; exact hch.same e3⟩ (fun i σ H' h => h.1) ?_ ?_⟩
    · rintro i y σ H4 hy ⟨e4, x4, v3, rfl, hch4⟩
      rw [List.getElem?_map] at hy
      obtain ⟨b, hb, rfl⟩ := Option.map_eq_some_iff.mp hy
      obtain ⟨c, hci, hrc⟩ := Pd.at (pd_swap hc) (i := i + 1) (b := b) (by rw [hbs]; simpa using hb)
      have hcm : c ∈ cs := List.mem_of_getElem? hci
      have e14 := (e2.trans e3).trans e4
      have okc1 : OkC [c] := ⟨by simp, by simp, fun z hz => by rw [List.mem_singleton.mp hz]; exact okc c hcm⟩
      refine ⟨_, rfl, _, rfl, ch_k ⟨[b], [c], rfl, .cons (hrc.same e14) .nil, okc1, fun y5 H5 hy5 e5 hch5 => ?_⟩⟩
      have et : cs.take (i + 1) ++ [c] = cs.take (i + 1 + 1) := by rw [List.take_add_one (i := i + 1), hci]; rfl
      have hch45 := hch4.same e5
      obtain ⟨dx, t, zs, hx1, hx2, hx3⟩ := id hch45
      obtain ⟨dy, t2, zs2, hy1, hy2, hy3⟩ := id hch5
      refine ⟨x4, dx, _, y5, dy, _, rfl, rfl, hx1, hy1, x4, y5, cs.take (i + 1), [c], rfl, hch45, hch5, ?_, by simp, by rw [et]; exact OkC.take okc (by omega) hne, fun z H6 hz e6 hch6 => ⟨(e4.trans e5).trans e6, z, _, rfl, by rw [← et]; exact hch6⟩⟩
      intro z
      rw [hcs] at z
      simp at z
    · rintro σ H4 ⟨e4, x4, v3, rfl, hch4⟩
      have hl1 : cs.length = bs'.length + 1 := by rw [← hbl, hbs]; rfl
      rw [List.length_map, ← hl1, List.take_length] at hch4
      refine ⟨_, rfl, hq x4 cs H4 (e03.trans e4) hch4 ?_ hlen⟩
      have := OkC.take okc (by omega) (i := bs'.length) hne
      rw [← hl1, List.take_length] at this
      exact this
end
end K72

-- K72Law6
set_option Elab.async false
set_option linter.all false
set_option maxRecDepth 100000
set_option maxHeartbeats 4000000
/-! The law's own defs: a family drawn. -/
namespace K72
open PySem PySem.Spec PyProof.Rows L2
def lotC (n code : Nat) : List Nat := (List.range n).filter fun c => decide (code / 2 ^ c % 2 = 1)
section
variable {P : Program} {w : World} {K : PySem.W.Frag} {mg : Str → Option Value} {base : Heap}
def spPow : Sp := fun vs H Q _ => ∃ n : Nat, vs = [vi n] ∧ n ≤ 20 ∧ ∀ H', Same H H' → Q (vi (2 ^ n)) H'
abbrev nm_law_power : List Str := ["_law_many", "_law_found", "_law_k"]
theorem sc_law_power : FnScope nm_law_power ["_law_many"] (defScope s__law_power) := ⟨rfl, rfl, rfl, by decide +kernel, rfl, by decide +kernel, by decide +kernel⟩
theorem r_law_power (T : Ft K mg) : CalR P w K mg base 1 "_law_power" spPow := by
  refine cal_of T.g__law_power T.f__law_power sc_law_power (fun _ _ _ _ _ _ us hl => match us, hl with | [_], _ => rfl) (fun vs H Q E h => ?_) fun cdv A outer s0 H vs Q E hr h => ?_
  · obtain ⟨_, rfl, _⟩ := h; rfl
  · obtain ⟨n, rfl, hn, hq⟩ := h
    refine ⟨_, pss_cons (ps_set (i := 1) sc_law_power.nd rfl (.inl rfl) pe_int)
      (pss_cons (ps_for PassesOwn.never rfl (pi_range1 rfl T.z_range (pa_cons (pv 0) pa_nil)) (pg_name (i := 2) sc_law_power.nd rfl (.inl rfl))
        (pss_one (ps_set (i := 1) sc_law_power.nd rfl (.inl rfl) (pe_op op_mul (pv 1) pe_int))))
      (pss_one (ps_ret (pv 1)))), ?_⟩
    refine ⟨_, rfl, (n : Int), rfl, by omega, by omega, for_walk walk_rng (fun i σ H' => Same H H' ∧ ∃ v, σ = [some (vi n), some (vi (2 ^ i)), v]) ⟨Same.refl _, none, rfl⟩ (fun i σ H' h => h.1) ?_ ?_⟩
    · rintro i y σ H1 hy ⟨e1, v, rfl⟩
      refine ⟨_, rfl, _, _, rfl, rfl, .inr ⟨by decide, by decide⟩, e1, some y, ?_⟩
      show [some (vi n), some (V.int (((2 ^ i : Nat) : Int) * 2)), some y] = [some (vi n), some (V.int ((2 ^ (i + 1) : Nat) : Int)), some y]
      rw [Nat.pow_succ]
      push_cast
      rfl
    · rintro σ H1 ⟨e1, v, rfl⟩
      rw [List.length_map, List.length_range, Int.toNat_natCast]
      exact ⟨_, rfl, hq H1 e1⟩
def spHas : Sp := fun vs H Q _ => ∃ code n : Nat, vs = [vi code, vi n] ∧ n ≤ 20 ∧ ∀ H', Same H H' → Q (.bl (decide (code / 2 ^ n % 2 = 1))) H'
abbrev nm_law_has : List Str := ["_law_code", "_law_copy"]
theorem sc_law_has : FnScope nm_law_has ["_law_code", "_law_copy"] (defScope s__law_has) := ⟨rfl, rfl, rfl, by decide +kernel, rfl, by decide +kernel, by decide +kernel⟩
theorem r_law_has (T : Ft K mg) : CalR P w K mg base 2 "_law_has" spHas := by
  refine cal_of T.g__law_has T.f__law_has sc_law_has (fun _ _ _ _ _ _ us hl => match us, hl with | [_, _], _ => rfl) (fun vs H Q E h => ?_) fun cdv A outer s0 H vs Q E hr h => ?_
  · obtain ⟨_, _, rfl, _⟩ := h; rfl
  · obtain ⟨code, n, rfl, hn, hq⟩ := h
    refine ⟨_, pss_one (ps_ret (pe_cmpR op_eq (pe_op op_mod (pe_op op_fdiv (pv 0) (pe_cr (r_law_power T) hr (by decide) rfl (pa_cons (pv 1) pa_nil))) pe_int) pe_int (nomark _))), ?_⟩
    have hp1 : 1 ≤ 2 ^ n := Nat.one_le_two_pow
    have hp2 : 2 ^ n ≤ 2 ^ 20 := Nat.pow_le_pow_right (by decide) hn
    refine ⟨_, rfl, _, rfl, n, rfl, hn, fun H1 e1 => ⟨_, _, rfl, rfl, ⟨by omega, by omega⟩, _, _, rfl, rfl, (show (0 : Int) < _ by decide), rfl, ?_⟩⟩
    have e : decide (V.int (((code : Int) / ((2 ^ n : Nat) : Int)) % 2) = V.int 1) = decide (code / 2 ^ n % 2 = 1) := by
      apply decide_eq_decide.mpr
      constructor
      · intro h; injection h with h; omega
      · intro h; have : ((code : Int) / ((2 ^ n : Nat) : Int)) % 2 = 1 := by omega
        rw [this]
    have := hq H1 e1
    rw [← e] at this
    exact this
end
end K72

-- K72Law7
set_option Elab.async false
set_option linter.all false
set_option maxRecDepth 100000
set_option maxHeartbeats 4000000
/-! The law's own defs: a family drawn. -/
namespace K72
open PySem PySem.Spec PyProof.Rows L2
theorem lotC_mem (n code : Nat) : lotC n code ∈ allLots n := filt_mem n _
theorem lotC_ne : ∀ n, 1 ≤ n → n ≤ 4 → ∀ code, 1 ≤ code → code < 2 ^ n → lotC n code ≠ [] := by
  have key : ∀ n ∈ List.range 5, ∀ code ∈ List.range 16, 1 ≤ code → code < 2 ^ n → lotC n code ≠ [] := by decide +kernel
  intro n h1 h4 code hc1 hc2
  have : 2 ^ n ≤ 2 ^ 4 := Nat.pow_le_pow_right (by decide) h4
  exact key n (List.mem_range.mpr (by omega)) code (List.mem_range.mpr (by omega)) hc1 hc2
section
variable {P : Program} {w : World} {K : PySem.W.Frag} {mg : Str → Option Value} {base : Heap}
def spLot (K : PySem.W.Frag) : Sp := fun vs H Q _ => ∃ n code : Nat, vs = [vi n, vi code] ∧ n ≤ 8 ∧ ∀ p H', H p = none → Same H H' → SqT K H' p ((lotC n code).map vi) → Q (.ref p) H'
abbrev nm_law_lot : List Str := ["_law_many", "_law_code", "_law_copy"]
theorem sc_law_lot : FnScope nm_law_lot ["_law_many", "_law_code"] (defScope s__law_lot) := ⟨rfl, rfl, rfl, by decide +kernel, rfl, by decide +kernel, by decide +kernel⟩
theorem r_law_lot (T : Ft K mg) : CalR P w K mg base 3 "_law_lot" (spLot K) := by
  refine cal_of T.g__law_lot T.f__law_lot sc_law_lot (fun _ _ _ _ _ _ us hl => match us, hl with | [_, _], _ => rfl) (fun vs H Q E h => ?_) fun cdv A outer s0 H vs Q E hr h => ?_
  · obtain ⟨_, _, rfl, _⟩ := h; rfl
  · obtain ⟨n, code, rfl, hn, hq⟩ := h
    refine ⟨_, pss_one (ps_ret (pe_callTy call_tuple_of rfl T.z_tuple boot_tuple (pa_cons (pe_lc (own := [("_law_copy", 2)]) (g := gName 2) rfl sc_law_lot.nd (pi_range1 rfl T.z_range (pa_cons (pv 0) pa_nil)) (blkOk_by (N := nm_law_lot) (sc := defScope s__law_lot) (by decide +kernel)) (fun _ _ _ _ _ => pg_name (i := 2) sc_law_lot.nd rfl (.inl rfl))
          (fun _ _ _ _ _ => pts_one (pt_val (pe_cr (r_law_has T) hr (by decide) rfl (pa_cons (pv 1) (pa_cons (pv 2) pa_nil))))) (fun _ _ _ _ _ => pv 2)) pa_nil))), ?_⟩
    refine ⟨_, rfl, (n : Int), rfl, by omega, by omega, ?_⟩
    refine fun D hD => lc_rngV (fun c => decide (code / 2 ^ c % 2 = 1)) vi (by omega) (fun _ => rfl) ?_ ?_ hD ?_
    · intro z H1 e1 hz Q' q'
      exact ⟨_, rfl, _, rfl, code, z, rfl, by omega, fun H2 e2 => ⟨_, rfl, q' _ e2⟩⟩
    · intro z H1 e1 hz _ Q' q'
      exact ⟨_, rfl, q' _ (Same.refl _)⟩
    · intro H1 e1 hH1
      refine ⟨D, _, rfl, .inl ⟨SqL.of hH1, fun p hp => ?_⟩⟩
      exact hq p _ (e1.free hp) (e1.trans (Same.new hp)) (SqT.of upd_same)
end
end K72

-- K72Law8
set_option Elab.async false
set_option linter.all false
set_option maxRecDepth 100000
set_option maxHeartbeats 4000000
/-! The law's own defs: _law_some_family. -/
namespace K72
open PySem PySem.Spec PyProof.Rows L2
theorem okL_one {n code : Nat} (h1 : 1 ≤ n) (h4 : n ≤ 4) (hc1 : 1 ≤ code) (hc2 : code < 2 ^ n) : OkL n [lotC n code] :=
  ⟨h1, by omega, fun l hl => by rw [List.mem_singleton.mp hl]; exact lotC_mem n code, fun l hl => by rw [List.mem_singleton.mp hl]; exact lotC_ne n h1 h4 code hc1 hc2, by simp, by simp⟩
section
variable {P : Program} {w : World} {K : PySem.W.Frag} {mg : Str → Option Value} {base : Heap}
def spSome (K : PySem.W.Frag) : Sp := fun vs H Q _ => ∃ (s st : Addr) (ns : List Int) (a b c d : Int) (n : Nat), vs = [.ref s, .ref st, vi n] ∧ SqL K H s (ns.map V.int) ∧ StL H st a b c d ∧ Ap K s st (ns.map V.int) ∧ ns.length < 1000 ∧ 0 ≤ d ∧ d < 10000 ∧ 1 ≤ n ∧ n ≤ 4 ∧
  ∀ x (ls : List (List Nat)) H', FamAt K H' x n ls → OkL n ls → (∃ ms, OkL n ms ∧ ls = leastN n ms) → Q (.ref x) H'
abbrev nm_law_some : List Str := ["_law_script", "_law_state", "_law_many", "_law_code", "_law_family", "_law_k"]
theorem sc_law_some : FnScope nm_law_some ["_law_script", "_law_state", "_law_many"] (defScope s__law_some_family) := ⟨rfl, rfl, rfl, by decide +kernel, rfl, by decide +kernel, by decide +kernel⟩
theorem r_law_some (T : Ft K mg) : CalR P w K mg base 7 "_law_some_family" (spSome K) := by
  refine cal_of T.g__law_some_family T.f__law_some_family sc_law_some (fun _ _ _ _ _ _ us hl => match us, hl with | [_, _, _], _ => rfl) (fun vs H Q E h => ?_) fun cdv A outer s0 H vs Q E hr h => ?_
  · obtain ⟨_, _, _, _, _, _, _, _, rfl, _⟩ := h; rfl
  · obtain ⟨s, st, ns, a, b, c, d, n, rfl, hs, hst, hne, hns, hd1, hd2, hn1, hn4, hq⟩ := h
    have hp1 : 2 ^ 1 ≤ 2 ^ n := Nat.pow_le_pow_right (by decide) hn1
    have hp2 : 2 ^ n ≤ 2 ^ 4 := Nat.pow_le_pow_right (by decide) hn4
    refine ⟨_, pss_cons (ps_set (i := 3) sc_law_some.nd rfl (.inl rfl) (pe_op op_add pe_int (pe_cr (r_law_draw T) hr (by decide) rfl (pa_cons (pv 0) (pa_cons (pv 1) (pa_cons (pe_op op_sub (pe_cr (r_law_power T) hr (by decide) rfl (pa_cons (pv 2) pa_nil)) pe_int) pa_nil))))))
      (pss_cons (ps_set (i := 4) sc_law_some.nd rfl (.inl rfl) (pe_kr (mk_family T) hr (by decide) rfl (pa_cons (pv 2) (pa_cons (pe_cr (r_law_lot T) hr (by decide) rfl (pa_cons (pv 2) (pa_cons (pv 3) pa_nil))) pa_nil))))
      (pss_cons (ps_for PassesOwn.never rfl (pi_range1 rfl T.z_range (pa_cons (pe_cr (r_law_draw T) hr (by decide) rfl (pa_cons (pv 0) (pa_cons (pv 1) (pa_cons pe_int pa_nil)))) pa_nil)) (pg_name (i := 5) sc_law_some.nd rfl (.inl rfl))
        (pss_one (ps_set (i := 4) sc_law_some.nd rfl (.inl rfl) (pe_op (op_binI (m_for T) T.first_Family rfl hr (by decide)) (pv 4) (pe_kr (mk_family T) hr (by decide) rfl (pa_cons (pv 2) (pa_cons (pe_cr (r_law_lot T) hr (by decide) rfl (pa_cons (pv 2) (pa_cons
          (pe_op op_add pe_int (pe_cr (r_law_draw T) hr (by decide) rfl (pa_cons (pv 0) (pa_cons (pv 1) (pa_cons (pe_op op_sub (pe_cr (r_law_power T) hr (by decide) rfl (pa_cons (pv 2) pa_nil)) pe_int) pa_nil))))) pa_nil))) pa_nil)))))))
      (pss_one (ps_ret (pv 4))))), ?_⟩
    refine ⟨_, rfl, _, rfl, _, rfl, n, rfl, by omega, fun H1 e1 => ⟨_, _, rfl, rfl, s, st, ns, a, b, c, d, _, rfl, (Sb.of e1).sqL hne hs, e1 _ _ hst, hne, hns, by omega, by omega, by omega, by omega, fun r a1 b1 c1 hr1 => ⟨_, _, rfl, rfl, ?_⟩⟩⟩
    have e2 : Sb st H (upd H1 st (.lst [.int a1, .int b1, .int c1, .int (d + 1)])) := (Sb.of e1).trans Sb.upd
    have h2 : StL (upd H1 st (.lst [.int a1, .int b1, .int c1, .int (d + 1)])) st a1 b1 c1 (d + 1) := upd_same
    generalize upd H1 st (.lst [.int a1, .int b1, .int c1, .int (d + 1)]) = H2 at e2 h2
    refine ⟨_, rfl, _, rfl, _, rfl, n, 1 + r, by show [vi n, V.int (1 + (r : Int))] = [vi n, V.int ((1 + r : Nat) : Int)]; rw [Int.natCast_add]; rfl, by omega, fun p H3 hp e3 hp3 => ?_⟩
    have ok1 := okL_one (n := n) (code := 1 + r) hn1 hn4 (by omega) (by omega)
    refine fam_k ⟨n, [p], [lotC n (1 + r)], rfl, .cons hp3 .nil, ok1, fun z H4 hz e4 hf => ?_⟩
    have e24 := e3.trans e4
    have e04 := e2.trans (Sb.of e24)
    have h4 := e24 _ _ h2
    refine ⟨_, rfl, _, rfl, s, st, ns, a1, b1, c1, d + 1, 4, rfl, e04.sqL hne hs, h4, hne, hns, by decide, by decide, by omega, by omega, fun m a5 b5 c5 hm => ⟨_, rfl, by omega, by omega, ?_⟩⟩
    have e5 := Sb.upd (st := st) (H := H4) (u := .lst [.int a5, .int b5, .int c5, .int (d + 1 + 1)])
    have h5 : StL _ st a5 b5 c5 (d + 1 + 1) := upd_same (H := H4)
    refine for_walk2 (fun i σ H' => ∃ a b c d' x ls v3 v5, σ = [some (.ref s), some (.ref st), some (vi n), v3, some (.ref x), v5] ∧ Sb st H H' ∧ StL H' st a b c d' ∧ 0 ≤ d' ∧ d' ≤ d + 2 + i ∧ FamAt K H' x n ls ∧ OkL n ls ∧ (∃ ms, OkL n ms ∧ ls = leastN n ms))
      ⟨a5, b5, c5, d + 1 + 1, z, _, _, none, rfl, e04.trans e5, h5, by omega, by omega, hf.x (e5.x h4), ok1.least, _, ok1, rfl⟩ (fun i σ H' _ => walk_rng) ?_ ?_
    · rintro i y σ H6 hy ⟨a6, b6, c6, d6, x6, ls, v3, v5, rfl, e6, h6, hd61, hd62, hf6, ok6, hms⟩
      have hi : i < 4 := by
        have q1 := (List.getElem?_eq_some_iff.mp hy).1
        rw [List.length_map, List.length_range] at q1
        omega
      refine ⟨_, rfl, _, rfl, _, rfl, _, rfl, _, rfl, _, rfl, n, rfl, by omega, fun H7 e7 => ⟨_, _, rfl, rfl, s, st, ns, a6, b6, c6, d6, _, rfl, (e6.trans (Sb.of e7)).sqL hne hs, e7 _ _ h6, hne, hns, by omega, by omega, by omega, by omega, fun r2 a8 b8 c8 hr2 => ⟨_, _, rfl, rfl, ?_⟩⟩⟩
      have e8 := Sb.upd (st := st) (H := H7) (u := .lst [.int a8, .int b8, .int c8, .int (d6 + 1)])
      have h8 : StL _ st a8 b8 c8 (d6 + 1) := upd_same (H := H7)
      have hf8 := (hf6.same e7).x (e8.x (e7 _ _ h6))
      have e08 := (e6.trans (Sb.of e7)).trans e8
      refine ⟨n, 1 + r2, by show [vi n, V.int (1 + (r2 : Int))] = [vi n, V.int ((1 + r2 : Nat) : Int)]; rw [Int.natCast_add]; rfl, by omega, fun p9 H9 hp9 e9 hq9 => ?_⟩
      have ok9 := okL_one (n := n) (code := 1 + r2) hn1 hn4 (by omega) (by omega)
      refine fam_k ⟨n, [p9], [lotC n (1 + r2)], rfl, .cons hq9 .nil, ok9, fun z9 H10 hz9 e10 hf10 => ?_⟩
      have e89 := e9.trans e10
      have hf11 := hf8.same e89
      obtain ⟨dx, t, zs, hx1, hx2, hx3⟩ := id hf11
      obtain ⟨dy, t2, zs2, hy1, hy2, hy3⟩ := id hf10
      have hl32 : ls.length ≤ 32 := by
        obtain ⟨ms, _, rfl⟩ := hms
        exact least_32 (by omega)
      have hl33 : (leastN n [lotC n (1 + r2)]).length ≤ 32 := least_32 (by omega)
      have hll : (ls ++ leastN n [lotC n (1 + r2)]).length < 1000 := by rw [List.length_append]; omega
      have okA := ok6.app ok9.least hll
      exact ⟨x6, dx, _, z9, dy, _, rfl, rfl, hx1, hy1, x6, z9, n, ls, _, rfl, hf11, ok6, hf10, ok9.least, hll, fun p11 H11 hp11 e11 hf12 =>
        ⟨a8, b8, c8, d6 + 1, p11, _, v3, _, rfl, (e08.trans (Sb.of e89)).trans (Sb.of e11), e11 _ _ (e89 _ _ h8), by omega, by omega, hf12, okA.least, _, okA, rfl⟩⟩
    · rintro σ H6 ⟨a6, b6, c6, d6, x6, ls, v3, v5, rfl, e6, h6, hd61, hd62, hf6, ok6, hms⟩
      exact ⟨_, rfl, hq x6 ls H6 hf6 ok6 hms⟩
end
end K72

-- K72Plain
set_option Elab.async false
set_option linter.all false
set_option maxRecDepth 100000
set_option maxHeartbeats 2000000
/-! The plain law: families by their up-sets. -/
namespace K72
open PySem PySem.Spec PyProof.Rows L2
theorem holds_iff {l m : List Nat} : holdsN l m = true ↔ ∀ c ∈ m, c ∈ l := by
  unfold holdsN
  rw [List.all_eq_true]
  exact ⟨fun h c hc => List.contains_iff_mem.mp (h c hc), fun h c hc => List.contains_iff_mem.mpr (h c hc)⟩
theorem lot_ext {n : Nat} {a b : List Nat} (ha : a ∈ allLots n) (hb : b ∈ allLots n) (h : ∀ c, c ∈ a ↔ c ∈ b) : a = b := by
  rw [← filt_self ha, ← filt_self hb]
  apply List.filter_congr
  intro c _
  have := h c
  by_cases q : c ∈ a
  · rw [List.contains_iff_mem.mpr q, List.contains_iff_mem.mpr (this.mp q)]
  · have q2 : ¬ c ∈ b := fun z => q (this.mpr z)
    rw [Bool.eq_false_iff.mpr (fun z => q (List.contains_iff_mem.mp z)), Bool.eq_false_iff.mpr (fun z => q2 (List.contains_iff_mem.mp z))]
theorem contains_iff {ls : List (List Nat)} {l : List Nat} : containsN ls l = true ↔ ∃ m ∈ ls, ∀ c ∈ m, c ∈ l := by
  unfold containsN
  rw [List.any_eq_true]
  exact ⟨fun ⟨m, h1, h2⟩ => ⟨m, h1, holds_iff.mp h2⟩, fun ⟨m, h1, h2⟩ => ⟨m, h1, holds_iff.mpr h2⟩⟩
theorem least_iff {n : Nat} {ls : List (List Nat)} {l : List Nat} : l ∈ leastN n ls ↔ (l ∈ allLots n ∧ l ∈ ls) ∧ ∀ o ∈ allLots n, o ∈ ls → (∀ c ∈ o, c ∈ l) → o = l := by
  unfold leastN
  rw [List.mem_filter, asc_mem]
  refine and_congr_right fun _ => ?_
  rw [Bool.not_eq_true', List.any_eq_false]
  constructor
  · intro h o ho hol hc
    have := h o (asc_mem.mpr ⟨ho, hol⟩)
    by_cases q : o = l
    · exact q
    · exfalso
      apply this
      rw [decide_eq_false q, holds_iff.mpr hc]
      rfl
  · intro h o ho hx
    obtain ⟨h1, h2⟩ := asc_mem.mp ho
    rw [Bool.and_eq_true] at hx
    have := h o h1 h2 (holds_iff.mp hx.2)
    have h3 := hx.1
    rw [this] at h3
    simp at h3
theorem least_below {n : Nat} {ls : List (List Nat)} (h5 : n ≤ 5) : ∀ {l : List Nat}, l ∈ allLots n → l ∈ ls → ∃ m ∈ leastN n ls, ∀ c ∈ m, c ∈ l := by
  have key : ∀ k l, l ∈ allLots n → l ∈ ls → codeN l = k → ∃ m ∈ leastN n ls, ∀ c ∈ m, c ∈ l := by
    intro k
    induction k using Nat.strongRecOn with
    | ind k ih =>
      intro l ha hl hk
      by_cases h : l ∈ leastN n ls
      · exact ⟨l, h, fun _ q => q⟩
      · rw [least_iff] at h
        have h2 : ¬ ∀ o ∈ allLots n, o ∈ ls → (∀ c ∈ o, c ∈ l) → o = l := fun z => h ⟨⟨ha, hl⟩, z⟩
        obtain ⟨o, h3⟩ := Classical.not_forall.mp h2
        obtain ⟨ho, h3⟩ := Classical.not_imp.mp h3
        obtain ⟨hol, h3⟩ := Classical.not_imp.mp h3
        obtain ⟨hc, hne⟩ := Classical.not_imp.mp h3
        have := holds_code l (allLots_mono h5 ha) o (allLots_mono h5 ho) (holds_iff.mpr hc) hne
        obtain ⟨m, hm, hmc⟩ := ih (codeN o) (by omega) o ho hol rfl
        exact ⟨m, hm, fun c q => hc c (hmc c q)⟩
  intro l ha hl
  exact key _ l ha hl rfl
/-- the least lots tell the same family -/
theorem contains_least {n : Nat} {ls : List (List Nat)} (h5 : n ≤ 5) (hm : ∀ l ∈ ls, l ∈ allLots n) (l : List Nat) : containsN (leastN n ls) l = containsN ls l := by
  rw [Bool.eq_iff_iff, contains_iff, contains_iff]
  constructor
  · rintro ⟨m, h1, h2⟩
    exact ⟨m, (least_mem h1).2, h2⟩
  · rintro ⟨m, h1, h2⟩
    obtain ⟨o, h3, h4⟩ := least_below h5 (hm m h1) h1
    exact ⟨o, h3, fun c q => h2 c (h4 c q)⟩
/-- a family is told by what it contains -/
theorem least_eq {n : Nat} {a b : List (List Nat)} (ha : ∀ l ∈ a, l ∈ allLots n) (hb : ∀ l ∈ b, l ∈ allLots n) (h : ∀ l ∈ allLots n, containsN a l = containsN b l) : leastN n a = leastN n b := by
  have key : ∀ {a b : List (List Nat)}, (∀ l ∈ a, l ∈ allLots n) → (∀ l ∈ b, l ∈ allLots n) → (∀ l ∈ allLots n, containsN a l = containsN b l) → ∀ l, l ∈ leastN n a → l ∈ leastN n b := fun {a b} ha hb h l hl => by
    obtain ⟨⟨h1, h2⟩, h3⟩ := least_iff.mp hl
    have c1 : containsN b l = true := by rw [← h l h1]; exact contains_iff.mpr ⟨l, h2, fun _ q => q⟩
    obtain ⟨m, hm, hml⟩ := contains_iff.mp c1
    have c2 : containsN a m = true := by rw [h m (hb m hm)]; exact contains_iff.mpr ⟨m, hm, fun _ q => q⟩
    obtain ⟨o, ho, hom⟩ := contains_iff.mp c2
    have e1 : o = l := h3 o (ha o ho) ho fun c q => hml c (hom c q)
    have e2 : m = l := lot_ext (hb m hm) h1 fun c => ⟨hml c, fun q => hom c (by rw [e1]; exact q)⟩
    refine least_iff.mpr ⟨⟨h1, by rw [← e2]; exact hm⟩, fun x hx hxb hxl => ?_⟩
    have c3 : containsN a x = true := by rw [h x hx]; exact contains_iff.mpr ⟨x, hxb, fun _ q => q⟩
    obtain ⟨y, hy, hyx⟩ := contains_iff.mp c3
    have e3 : y = l := h3 y (ha y hy) hy fun c q => hxl c (hyx c q)
    exact lot_ext hx h1 fun c => ⟨hxl c, fun q => hyx c (by rw [e3]; exact q)⟩
  have e : ∀ l, l ∈ allLots n → ((l ∈ leastN n a) ↔ (l ∈ leastN n b)) := fun l _ => ⟨key ha hb h l, key hb ha (fun l q => (h l q).symm) l⟩
  have filt : ∀ x : List (List Nat), leastN n x = (allLots n).filter fun l => (leastN n x).contains l := fun x => by
    conv => lhs; unfold leastN ascN
    rw [List.filter_filter]
    apply List.filter_congr
    intro l hl
    rw [Bool.eq_iff_iff, List.contains_iff_mem]
    unfold leastN ascN
    rw [List.mem_filter, List.mem_filter, Bool.and_eq_true]
    exact ⟨fun q => ⟨⟨hl, q.2⟩, q.1⟩, fun q => ⟨q.2, q.1.2⟩⟩
  rw [filt a, filt b]
  apply List.filter_congr
  intro l hl
  rw [Bool.eq_iff_iff, List.contains_iff_mem, List.contains_iff_mem]
  exact e l hl
end K72

-- K72Plain2
set_option Elab.async false
set_option linter.all false
set_option maxRecDepth 100000
set_option maxHeartbeats 2000000
/-! The plain law: votes. -/
namespace K72
open PySem PySem.Spec PyProof.Rows L2
theorem mem_others {n : Nat} {l : List Nat} (hl : l ∈ allLots n) {c : Nat} : c ∈ others n l ↔ c < n ∧ ¬ c ∈ l := by
  unfold others
  rw [lotOf_self hl, List.mem_filter, List.mem_range, Bool.not_eq_true', ← Bool.not_eq_true, List.contains_iff_mem]
theorem others_mem (n : Nat) (l : List Nat) : others n l ∈ allLots n := filt_mem n _
theorem others_others {n : Nat} {l : List Nat} (hl : l ∈ allLots n) : others n (others n l) = l :=
  lot_ext (others_mem n _) hl fun c => by
    rw [mem_others (others_mem n l), mem_others hl]
    have := fun q : c ∈ l => allLots_lt hl c q
    constructor
    · rintro ⟨h1, h2⟩
      exact Classical.byContradiction fun q => h2 ⟨h1, q⟩
    · intro q
      exact ⟨this q, fun h => h.2 q⟩
theorem sum_filter_add {f : Nat → Nat} {p : Nat → Bool} : ∀ (l : List Nat), ((l.filter p).map f).sum + ((l.filter fun c => !p c).map f).sum = (l.map f).sum
  | [] => rfl
  | x :: r => by
    have := sum_filter_add (f := f) (p := p) r
    rw [List.filter_cons, List.filter_cons]
    cases p x <;> simp only [Bool.not_true, Bool.not_false, if_true, if_false, Bool.false_eq_true, List.map_cons, List.sum_cons] <;> omega
theorem sumV_others {vs l : List Nat} (hl : l ∈ allLots vs.length) : sumV vs l + sumV vs (others vs.length l) = vs.sum := by
  have h1 : others vs.length l = (List.range vs.length).filter fun c => !(l.contains c) := by
    unfold others
    rw [lotOf_self hl]
  rw [h1, ← sumV_range vs]
  conv => lhs; lhs; rw [← filt_self hl]
  exact sum_filter_add _
theorem sumV_mono {vs a b : List Nat} (ha : a ∈ allLots vs.length) (hb : b ∈ allLots vs.length) (h : ∀ c ∈ a, c ∈ b) : sumV vs a ≤ sumV vs b := by
  have e : a = b.filter fun c => a.contains c := by
    rw [← filt_self hb, List.filter_filter]
    conv => lhs; rw [← filt_self ha]
    apply List.filter_congr
    intro c _
    rw [Bool.eq_iff_iff, Bool.and_eq_true, List.contains_iff_mem, List.contains_iff_mem]
    exact ⟨fun q => ⟨q, h c q⟩, fun q => q.1⟩
  rw [e]
  exact sum_filter_le b
/-- a row with its quota tells just the family -/
structure Quo (n : Nat) (ls : List (List Nat)) (row : List Nat) (q : Nat) : Prop where
  len : row.length = n
  iff : ∀ l ∈ allLots n, (containsN ls l = true ↔ q ≤ sumV row l)
  q1 : 1 ≤ q
theorem quo_of {n : Nat} {ls : List (List Nat)} {row : List Nat} {q : Nat} (ok : OkL n ls) (hl : row.length = n) (h : quotaFor row ls (fvOut n ls) = some q) : Quo n ls row q := by
  unfold quotaFor at h
  dsimp only at h
  split at h
  · rename_i hall
    injection h with h
    refine ⟨hl, fun l hm => ⟨fun hc => ?_, fun hq => ?_⟩, by omega⟩
    · obtain ⟨m, h1, h2⟩ := contains_iff.mp hc
      have h3 := of_decide_eq_true (List.all_eq_true.mp hall m h1)
      have h4 := sumV_mono (vs := row) (by rw [hl]; exact ok.mem m h1) (by rw [hl]; exact hm) h2
      omega
    · refine Classical.byContradiction fun hc => ?_
      have hd : others n l ∈ dualLots n ls := List.mem_filter.mpr ⟨others_mem n l, by rw [others_others hm, Bool.not_eq_true']; exact Bool.eq_false_iff.mpr hc⟩
      obtain ⟨d, h1, h2⟩ := least_below ok.n5 (others_mem n l) hd
      have hdm := (least_mem h1).1
      have h3 : ∀ c ∈ l, c ∈ others n d := fun c hcl => (mem_others hdm).mpr ⟨allLots_lt hm c hcl, fun z => ((mem_others hm).mp (h2 c z)).2 hcl⟩
      have h4 := sumV_mono (vs := row) (by rw [hl]; exact hm) (by rw [hl]; exact others_mem n d) h3
      have h5 := (foldl_max_le (l := (fvOut n ls).map (sumV row)) (a := 0)).2 (sumV row (others n d)) (List.mem_map_of_mem (List.mem_map_of_mem h1))
      omega
  · cases h
/-- (a) -/
theorem quo_fam {n : Nat} {ms : List (List Nat)} {row : List Nat} {q : Nat} (ok : OkL n ms) (h : Quo n (leastN n ms) row q) : vFam q row = leastN n ms := by
  unfold vFam
  rw [h.len]
  refine least_eq (fun l hl => by rw [← h.len]; exact (List.mem_filter.mp hl).1) ok.mem fun l hl => ?_
  rw [← contains_least ok.n5 ok.mem l, Bool.eq_iff_iff, h.iff l hl, contains_iff]
  constructor
  · rintro ⟨m, h1, h2⟩
    obtain ⟨h3, h4⟩ := List.mem_filter.mp h1
    have := sumV_mono h3 (by rw [h.len]; exact hl) h2
    have := of_decide_eq_true h4
    omega
  · intro hq
    exact ⟨l, List.mem_filter.mpr ⟨by rw [h.len]; exact hl, decide_eq_true hq⟩, fun _ z => z⟩
/-- (b) -/
theorem quo_dual {n : Nat} {ls : List (List Nat)} {row : List Nat} {q : Nat} (h : Quo n ls row q) (hq : q ≤ row.sum) : vFam (row.sum + 1 - q) row = dualN n ls := by
  unfold vFam dualN vFamLots dualLots
  rw [h.len]
  congr 1
  apply List.filter_congr
  intro l hl
  have h1 := sumV_others (vs := row) (l := l) (by rw [h.len]; exact hl)
  rw [h.len] at h1
  rw [Bool.eq_iff_iff, decide_eq_true_iff, Bool.not_eq_true', Bool.eq_false_iff, ne_eq, h.iff _ (others_mem n l)]
  omega
end K72

-- K72Plain3
set_option Elab.async false
set_option linter.all false
set_option maxRecDepth 100000
set_option maxHeartbeats 2000000
/-! The plain law: votes of the dual; no trade where votes are. -/
namespace K72
open PySem PySem.Spec PyProof.Rows L2
theorem contains_dual {n : Nat} {ls : List (List Nat)} (ok : OkL n ls) {l : List Nat} (hl : l ∈ allLots n) : containsN (dualN n ls) l = !containsN ls (others n l) := by
  unfold dualN
  rw [contains_least (ls := dualLots n ls) ok.n5 (fun l h => (List.mem_filter.mp h).1), Bool.eq_iff_iff, contains_iff, Bool.not_eq_true', Bool.eq_false_iff, ne_eq]
  constructor
  · rintro ⟨m, h1, h2⟩ hc
    obtain ⟨h3, h4⟩ := List.mem_filter.mp h1
    rw [Bool.not_eq_true'] at h4
    obtain ⟨x, hx, hxl⟩ := contains_iff.mp hc
    have : containsN ls (others n m) = true := contains_iff.mpr ⟨x, hx, fun c hcx => (mem_others h3).mpr ⟨allLots_lt (others_mem n l) c (hxl c hcx), fun z => ((mem_others hl).mp (hxl c hcx)).2 (h2 c z)⟩⟩
    rw [this] at h4
    cases h4
  · intro hc
    exact ⟨l, List.mem_filter.mpr ⟨hl, by rw [Bool.not_eq_true']; exact Bool.eq_false_iff.mpr hc⟩, fun _ z => z⟩
/-- the row tells the dual, too -/
theorem quo_find {n : Nat} {ls : List (List Nat)} {row : List Nat} {q : Nat} (ok : OkL n ls) (h : Quo n ls row q) (hq : q ≤ row.sum) : quotaFor row (dualN n ls) (fvOut n (dualN n ls)) ≠ none := by
  have okd : OkL n (dualN n ls) := ok.dual.least
  have hmax : ∀ y ∈ (fvOut n (dualN n ls)).map (sumV row), y ≤ row.sum - q := fun y hy => by
    obtain ⟨x, hx, rfl⟩ := List.mem_map.mp hy
    obtain ⟨m, hm, rfl⟩ := List.mem_map.mp hx
    have hml := (least_mem hm).1
    have hc : containsN (dualN n (dualN n ls)) m = true := contains_iff.mpr ⟨m, hm, fun _ z => z⟩
    rw [contains_dual okd hml, contains_dual ok (others_mem n m), others_others hml, Bool.not_not] at hc
    have h1 := (h.iff m hml).mp hc
    have h2 := sumV_others (vs := row) (l := m) (by rw [h.len]; exact hml)
    rw [h.len] at h2
    omega
  have hfold : ((fvOut n (dualN n ls)).map (sumV row)).foldl max 0 ≤ row.sum - q := by
    rcases foldl_max_mem (l := (fvOut n (dualN n ls)).map (sumV row)) (a := 0) with e | e
    · rw [e]; exact Nat.zero_le _
    · exact hmax _ e
  unfold quotaFor
  dsimp only
  rw [if_pos]
  · exact fun z => by cases z
  · rw [List.all_eq_true]
    intro d hd
    apply decide_eq_true
    have hdl := (least_mem hd).1
    have hc : containsN (dualN n ls) d = true := contains_iff.mpr ⟨d, hd, fun _ z => z⟩
    rw [contains_dual ok hdl, Bool.not_eq_true', Bool.eq_false_iff, ne_eq, h.iff _ (others_mem n d)] at hc
    have h2 := sumV_others (vs := row) (l := d) (by rw [h.len]; exact hdl)
    rw [h.len] at h2
    omega
theorem fs_ne {α β : Type} {f : α → Option β} {l : List α} {x : α} (hx : x ∈ l) (h : f x ≠ none) : l.findSome? f ≠ none := fun z => h (List.findSome?_eq_none_iff.mp z x hx)
/-- what find_votes found -/
theorem find_row {n : Nat} {ls : List (List Nat)} {q : Nat} {vs : List Nat} (h : findVotes n ls = some (q, vs)) : ∃ i, i < 12 ∧ vs ∈ rowsN n (1 + i) ∧ quotaFor vs ls (fvOut n ls) = some q := by
  unfold findVotes at h
  obtain ⟨i, hi, h⟩ := List.exists_of_findSome?_eq_some h
  obtain ⟨r, hr, h⟩ := List.exists_of_findSome?_eq_some h
  unfold fvRow at h
  obtain ⟨q', h1, h2⟩ := Option.map_eq_some_iff.mp h
  injection h2 with e1 e2
  subst e1 e2
  exact ⟨i, List.mem_range.mp hi, hr, h1⟩
theorem find_dual {n : Nat} {ls : List (List Nat)} {q : Nat} {vs : List Nat} (ok : OkL n ls) (h : findVotes n ls = some (q, vs)) : findVotes n (dualN n ls) ≠ none := by
  obtain ⟨i, hi, hr, hq⟩ := find_row h
  have okv := fv_ok ok (by omega) hr hq
  have h2 := quo_find ok (quo_of ok (rowsN_length hr) hq) okv.qs
  refine fs_ne (List.mem_range.mpr hi) (fs_ne hr ?_)
  unfold fvRow
  intro z
  exact h2 (Option.map_eq_none_iff.mp z)
end K72

-- K72Plain4
set_option Elab.async false
set_option linter.all false
set_option maxRecDepth 100000
set_option maxHeartbeats 2000000
/-! The plain law: votes leave no trade. -/
namespace K72
open PySem PySem.Spec PyProof.Rows L2
theorem sum_filter_in {f : Nat → Nat} {l : List Nat} : ∀ (r : List Nat), ((r.filter fun c => l.contains c).map f).sum = (r.map fun c => inN c l * f c).sum
  | [] => rfl
  | x :: r => by
    have := sum_filter_in (f := f) (l := l) r
    rw [List.filter_cons]
    unfold inN at this ⊢
    cases q : l.contains x <;> simp only [q, if_true, if_false, Bool.false_eq_true, List.map_cons, List.sum_cons, Nat.zero_mul, Nat.one_mul, Nat.zero_add] <;> omega
theorem sumV_tally {vs : List Nat} {n : Nat} {l : List Nat} (h5 : n ≤ 5) (hl : l ∈ allLots n) : sumV vs l = ((List.range 5).map fun c => inN c l * vs.getD c 0).sum := by
  unfold sumV
  conv => lhs; rw [← filt_self (allLots_mono h5 hl)]
  exact sum_filter_in _
theorem sum_add {f g : Nat → Nat} : ∀ (r : List Nat), (r.map f).sum + (r.map g).sum = (r.map fun c => f c + g c).sum
  | [] => rfl
  | x :: r => by
    have := sum_add (f := f) (g := g) r
    simp only [List.map_cons, List.sum_cons]
    omega
theorem sum_tally {vs : List Nat} {n : Nat} {a b c d : List Nat} (h5 : n ≤ 5) (ha : a ∈ allLots n) (hb : b ∈ allLots n) (hc : c ∈ allLots n) (hd : d ∈ allLots n) (h : tallyN a b = tallyN c d) : sumV vs a + sumV vs b = sumV vs c + sumV vs d := by
  rw [sumV_tally h5 ha, sumV_tally h5 hb, sumV_tally h5 hc, sumV_tally h5 hd, sum_add, sum_add]
  congr 1
  apply List.map_congr_left
  intro x hx
  have := tally_at h (List.mem_range.mp hx)
  rw [← Nat.add_mul, ← Nat.add_mul, this]
/-- (c) -/
theorem quo_notrade {n : Nat} {ls : List (List Nat)} {row : List Nat} {q : Nat} (ok : OkL n ls) (h : Quo n ls row q) : NoTr n ls := by
  intro g1 t1 g2 t2 T
  have e := sum_tally (vs := row) ok.n5 T.g1m T.g2m T.t1m T.t2m T.eq
  have a1 := (h.iff g1 T.g1m).mp T.g1i
  have a2 := (h.iff g2 T.g2m).mp T.g2i
  have b1 : ¬ q ≤ sumV row t1 := fun z => by have := (h.iff t1 T.t1m).mpr z; rw [T.t1o] at this; cases this
  have b2 : ¬ q ≤ sumV row t2 := fun z => by have := (h.iff t2 T.t2m).mpr z; rw [T.t2o] at this; cases this
  omega
end K72

-- K72Plain5
set_option Elab.async false
set_option linter.all false
set_option maxRecDepth 100000
set_option maxHeartbeats 0
/-! The plain law: up to three copies votes are always found, and so for the wider family. -/
namespace K72
open PySem PySem.Spec PyProof.Rows L2
def subs {α : Type} : List α → List (List α)
  | [] => [[]]
  | x :: r => subs r ++ (subs r).map (x :: ·)
theorem filter_subs {α : Type} (p : α → Bool) : ∀ l : List α, l.filter p ∈ subs l
  | [] => List.mem_singleton.mpr rfl
  | x :: r => by
    rw [List.filter_cons]
    unfold subs
    rw [List.mem_append]
    split
    · exact .inr (List.mem_map_of_mem (filter_subs p r))
    · exact .inl (filter_subs p r)
def chkV (n : Nat) (ls : List (List Nat)) : Bool := match findVotes n ls with
  | some (_, vs) => match findVotes (n + 1) (leastN (n + 1) ls) with
    | some (_, ws) => ws == vs ++ [0]
    | none => false
  | none => false
def fitV (n : Nat) (ls : List (List Nat)) : Bool := !ls.isEmpty && !ls.contains [] && (leastN n ls == ls)
theorem chk_all : ∀ n ∈ [1, 2, 3], ∀ ls ∈ (subs (allLots n)).filter (fitV n), chkV n ls = true := by decide +kernel
theorem least_subs (n : Nat) (ms : List (List Nat)) : leastN n ms ∈ subs (allLots n) := by
  unfold leastN ascN
  rw [List.filter_filter]
  exact filter_subs _ _
/-- (e) -/
theorem find_three {n : Nat} {ms : List (List Nat)} (ok : OkL n ms) (h3 : n ≤ 3) : ∃ q vs q', findVotes n (leastN n ms) = some (q, vs) ∧ findVotes (n + 1) (leastN (n + 1) (leastN n ms)) = some (q', vs ++ [0]) := by
  have h1 := ok.n1
  have okl := ok.least
  have hn : n ∈ [1, 2, 3] := by simp; omega
  have hfit : fitV n (leastN n ms) = true := by
    unfold fitV
    rw [Bool.and_eq_true, Bool.and_eq_true]
    refine ⟨⟨?_, ?_⟩, ?_⟩
    · rw [Bool.not_eq_true', ← Bool.not_eq_true, List.isEmpty_iff]; exact okl.some
    · rw [Bool.not_eq_true', ← Bool.not_eq_true, List.contains_iff_mem]; exact fun z => okl.ne _ z rfl
    · rw [beq_iff_eq]
      exact least_eq okl.mem ok.mem fun l _ => contains_least ok.n5 ok.mem l
  have := chk_all n hn _ (List.mem_filter.mpr ⟨least_subs n ms, hfit⟩)
  unfold chkV at this
  split at this
  · rename_i q vs e1
    split at this
    · rename_i q' ws e2
      exact ⟨q, vs, q', e1, by rw [e2, beq_iff_eq.mp this]⟩
    · cases this
  · cases this
end K72

-- K72Plain6
set_option Elab.async false
set_option linter.all false
set_option maxRecDepth 100000
set_option maxHeartbeats 2000000
/-! The plain law: the best writes leave no trade. -/
namespace K72
open PySem PySem.Spec PyProof.Rows L2
theorem ov_pos : ∀ {cs : List Rt} {l : List Nat} {i : Nat}, (∀ c ∈ cs, OkC1 c) → 0 < overN l i cs
  | [], _, _, _ => by show (0 : Int) < 1; decide
  | c :: r, l, i, h => by
    have hc := h c List.mem_cons_self
    have h1 := hc.ok.pos
    have h2 := hc.half
    have h3 := hc.one
    refine Int.mul_pos ?_ (ov_pos fun x hx => h x (List.mem_cons_of_mem _ hx))
    split <;> omega
theorem ov_mono : ∀ {cs : List Rt} {a b : List Nat} {i : Nat}, (∀ c ∈ cs, OkC1 c) → (∀ c ∈ a, c ∈ b) → overN a i cs ≤ overN b i cs
  | [], _, _, _, _, _ => Int.le_refl _
  | c :: r, a, b, i, h, hab => by
    have hc := h c List.mem_cons_self
    have h1 := hc.ok.pos
    have h2 := hc.half
    have h3 := hc.one
    have hr : ∀ x ∈ r, OkC1 x := fun x hx => h x (List.mem_cons_of_mem _ hx)
    have ih := ov_mono (i := i + 1) hr hab
    have p1 := ov_pos (l := a) (i := i + 1) hr
    have p2 := ov_pos (l := b) (i := i + 1) hr
    show (if a.contains i then c.1 else c.2 - c.1) * overN a (i + 1) r ≤ (if b.contains i then c.1 else c.2 - c.1) * overN b (i + 1) r
    refine Int.mul_le_mul ?_ ih (by omega) ?_
    · by_cases q : a.contains i = true
      · rw [if_pos q, if_pos (List.contains_iff_mem.mpr (hab i (List.contains_iff_mem.mp q)))]
        exact Int.le_refl _
      · rw [if_neg q]
        split <;> omega
    · split <;> omega
theorem pick2 {x y : Int} {a b c d : Bool} (h : (if a = true then 1 else 0) + (if b = true then 1 else 0) = (if c = true then 1 else 0) + (if d = true then 1 else 0)) : (if a = true then x else y) * (if b = true then x else y) = (if c = true then x else y) * (if d = true then x else y) := by
  cases a <;> cases b <;> cases c <;> cases d <;> first | rfl | exact Int.mul_comm _ _ | exact absurd h (by decide)
theorem ov_tally : ∀ {cs : List Rt} {a b c d : List Nat} {i : Nat}, (∀ x, i ≤ x → x < i + cs.length → inN x a + inN x b = inN x c + inN x d) → overN a i cs * overN b i cs = overN c i cs * overN d i cs
  | [], _, _, _, _, _, _ => rfl
  | k :: r, a, b, c, d, i, h => by
    have h0 := h i (Nat.le_refl _) (by simp)
    have ih := ov_tally (cs := r) (a := a) (b := b) (c := c) (d := d) (i := i + 1) fun x h1 h2 => h x (by omega) (by simp only [List.length_cons]; omega)
    show (if a.contains i then k.1 else k.2 - k.1) * overN a (i + 1) r * ((if b.contains i then k.1 else k.2 - k.1) * overN b (i + 1) r) = (if c.contains i then k.1 else k.2 - k.1) * overN c (i + 1) r * ((if d.contains i then k.1 else k.2 - k.1) * overN d (i + 1) r)
    have swap : ∀ p q u v : Int, p * u * (q * v) = p * q * (u * v) := fun p q u v => by
      rw [Int.mul_assoc, Int.mul_assoc, ← Int.mul_assoc u q v, Int.mul_comm u q, Int.mul_assoc q u v]
    rw [swap _ _ (overN a (i + 1) r) (overN b (i + 1) r), swap _ _ (overN c (i + 1) r) (overN d (i + 1) r), ih]
    congr 1
    exact pick2 h0
end K72

-- K72Plain7
set_option Elab.async false
set_option linter.all false
set_option maxRecDepth 100000
set_option maxHeartbeats 2000000
/-! The plain law: the best writes leave no trade, by products. -/
namespace K72
open PySem PySem.Spec PyProof.Rows L2
theorem lot_whole {n : Nat} {l : List Nat} (hl : l ∈ allLots n) (h : ¬ l.length < n) : l = List.range n := by
  have h1 := filt_self hl
  have h2 : ((List.range n).filter fun c => l.contains c).length = (List.range n).length := by
    rw [h1, List.length_range]
    have := allLots_llen hl
    omega
  rw [← h1]
  exact List.filter_eq_self.mpr (List.length_filter_eq_length_iff.mp h2)
theorem mid_of {n : Nat} {l : List Nat} (hl : l ∈ allLots n) (h0 : l ≠ []) (h1 : l ≠ List.range n) : l ∈ middleN n := by
  refine List.mem_filter.mpr ⟨hl, ?_⟩
  rw [Bool.and_eq_true]
  exact ⟨decide_eq_true (List.length_pos_iff.mpr h0), decide_eq_true (Classical.byContradiction fun z => h1 (lot_whole hl z))⟩
theorem contains_mono {ls : List (List Nat)} {a b : List Nat} (h : ∀ c ∈ a, c ∈ b) (ha : containsN ls a = true) : containsN ls b = true := by
  obtain ⟨m, h1, h2⟩ := contains_iff.mp ha
  exact contains_iff.mpr ⟨m, h1, fun c q => h c (h2 c q)⟩
theorem inN_one {c : Nat} {l : List Nat} : inN c l = 1 ↔ c ∈ l := by
  unfold inN
  rw [← List.contains_iff_mem]
  cases l.contains c <;> simp
theorem inN_le {c : Nat} {l : List Nat} : inN c l ≤ 1 := by unfold inN; split <;> omega
theorem notr_sep {n : Nat} {ls : List (List Nat)} (ok : OkL n ls) (P : List Nat → Int) (pos : ∀ l, 0 < P l) (prod : ∀ a b c d, tallyN a b = tallyN c d → P a * P b = P c * P d)
    (sep : ∀ g1 ∈ middleN n, ∀ g2 ∈ middleN n, ∀ t1 ∈ middleN n, ∀ t2 ∈ middleN n, containsN ls g1 = true → containsN ls g2 = true → containsN ls t1 = false → containsN ls t2 = false → tallyN g1 g2 = tallyN t1 t2 → P g1 * P g2 = P t1 * P t2 → False) : NoTr n ls := by
  intro g1 t1 g2 t2 T
  have h5 := ok.n5
  have no : ∀ {a b : List Nat}, containsN ls a = true → containsN ls b = false → (∀ c ∈ a, c ∈ b) → False := fun {a b} ha hb h => by
    have := contains_mono h ha
    rw [hb] at this; cases this
  have hg : ∀ {g}, containsN ls g = true → g ≠ [] := fun {g} h z => by
    obtain ⟨m, h1, h2⟩ := contains_iff.mp h
    have : m = [] := List.eq_nil_iff_forall_not_mem.mpr fun c hc => by have := h2 c hc; rw [z] at this; cases this
    exact ok.ne m h1 this
  have ht : ∀ {t}, t ∈ allLots n → containsN ls t = false → t ≠ List.range n := fun {t} hm h z => by
    obtain ⟨m, hmm⟩ := List.exists_mem_of_ne_nil ls ok.some
    have : containsN ls t = true := contains_iff.mpr ⟨m, hmm, fun c hc => by rw [z]; exact List.mem_range.mpr (allLots_lt (ok.mem m hmm) c hc)⟩
    rw [h] at this; cases this
  have at5 : ∀ c, c < n → inN c g1 + inN c g2 = inN c t1 + inN c t2 := fun c hc => tally_at T.eq (by omega)
  have w1 : g1 ≠ List.range n := fun z => no T.g2i T.t1o fun c hc => by
    have hcn := allLots_lt T.g2m c hc
    have := at5 c hcn
    rw [inN_one.mpr hc, inN_one.mpr (show c ∈ g1 by rw [z]; exact List.mem_range.mpr hcn)] at this
    have l1 := @inN_le c t1
    have l2 := @inN_le c t2
    exact inN_one.mp (by omega)
  have w2 : g2 ≠ List.range n := fun z => no T.g1i T.t1o fun c hc => by
    have hcn := allLots_lt T.g1m c hc
    have := at5 c hcn
    rw [inN_one.mpr hc, inN_one.mpr (show c ∈ g2 by rw [z]; exact List.mem_range.mpr hcn)] at this
    have l1 := @inN_le c t1
    have l2 := @inN_le c t2
    exact inN_one.mp (by omega)
  have e1 : t1 ≠ [] := fun z => no T.g1i T.t2o fun c hc => by
    have hcn := allLots_lt T.g1m c hc
    have := at5 c hcn
    rw [inN_one.mpr hc, z] at this
    have l2 := @inN_le c t2
    have : inN c [] = 0 := rfl
    exact inN_one.mp (by omega)
  have e2 : t2 ≠ [] := fun z => no T.g1i T.t1o fun c hc => by
    have hcn := allLots_lt T.g1m c hc
    have := at5 c hcn
    rw [inN_one.mpr hc, z] at this
    have l2 := @inN_le c t1
    have : inN c [] = 0 := rfl
    exact inN_one.mp (by omega)
  exact sep g1 (mid_of T.g1m (hg T.g1i) w1) g2 (mid_of T.g2m (hg T.g2i) w2) t1 (mid_of T.t1m e1 (ht T.t1m T.t1o)) t2 (mid_of T.t2m e2 (ht T.t2m T.t2o)) T.g1i T.g2i T.t1o T.t2o T.eq (prod _ _ _ _ T.eq)
end K72

-- K72Plain8
set_option Elab.async false
set_option linter.all false
set_option maxRecDepth 100000
set_option maxHeartbeats 2000000
/-! The plain law: the best writes leave no trade. -/
namespace K72
open PySem PySem.Spec PyProof.Rows L2
theorem ov_prod {cs : List Rt} (o : OkC cs) {a b c d : List Nat} (h : tallyN a b = tallyN c d) : overN a 0 cs * overN b 0 cs = overN c 0 cs * overN d 0 cs :=
  ov_tally fun x _ hx => tally_at h (by have := o.n4; omega)
theorem inN_others {n : Nat} {l : List Nat} (hl : l ∈ allLots n) {x : Nat} (hx : x < n) : inN x l + inN x (others n l) = 1 := by
  have h1 := @inN_le x l
  have h2 := @inN_le x (others n l)
  by_cases q : x ∈ l
  · have a := inN_one.mpr q
    have b : inN x (others n l) ≠ 1 := fun z => ((mem_others hl).mp (inN_one.mp z)).2 q
    omega
  · have a : inN x l ≠ 1 := fun z => q (inN_one.mp z)
    have b := inN_one.mpr ((mem_others hl).mpr ⟨hx, q⟩)
    omega
theorem ov_const {cs : List Rt} {a b : List Nat} (ha : a ∈ allLots cs.length) (hb : b ∈ allLots cs.length) : overN a 0 cs * overN (others cs.length a) 0 cs = overN b 0 cs * overN (others cs.length b) 0 cs :=
  ov_tally fun x _ hx => by rw [inN_others ha (by omega), inN_others hb (by omega)]
theorem ov_anti {cs : List Rt} (o : OkC cs) {a b : List Nat} (ha : a ∈ allLots cs.length) (hb : b ∈ allLots cs.length) (h : overN a 0 cs ≤ overN b 0 cs) : overN (others cs.length b) 0 cs ≤ overN (others cs.length a) 0 cs := by
  have e := ov_const ha hb
  have p1 := ov_pos (l := a) (i := 0) o.all
  have p2 := ov_pos (l := others cs.length a) (i := 0) o.all
  refine Classical.byContradiction fun z => ?_
  have z : overN (others cs.length a) 0 cs < overN (others cs.length b) 0 cs := by omega
  have h1 : overN a 0 cs * overN (others cs.length a) 0 cs < overN a 0 cs * overN (others cs.length b) 0 cs := Int.mul_lt_mul_of_pos_left z p1
  have h2 : overN a 0 cs * overN (others cs.length b) 0 cs ≤ overN b 0 cs * overN (others cs.length b) 0 cs := Int.mul_le_mul_of_nonneg_right h (by omega)
  omega
theorem gain_mono {cs : List Rt} {s : Rt} (o : OkC cs) (h0 : 0 ≤ s.1) (h1 : s.1 ≤ s.2) {a b : List Nat} (ha : a ∈ allLots cs.length) (hb : b ∈ allLots cs.length) (h : overN a 0 cs ≤ overN b 0 cs) : gainN cs s a ≤ gainN cs s b := by
  have h2 := ov_anti o ha hb h
  unfold gainN
  have h3 : (s.2 - s.1) * overN a 0 cs ≤ (s.2 - s.1) * overN b 0 cs := Int.mul_le_mul_of_nonneg_left h (by omega)
  have h4 : s.1 * overN (others cs.length b) 0 cs ≤ s.1 * overN (others cs.length a) 0 cs := Int.mul_le_mul_of_nonneg_left h2 h0
  omega
theorem mul_lt4 {a b c d : Int} (ha : 0 < a) (hb : 0 < b) (h1 : a < c) (h2 : b < d) : a * b < c * d := by
  have e1 : a * b < a * d := Int.mul_lt_mul_of_pos_left h2 ha
  have e2 : a * d < c * d := Int.mul_lt_mul_of_pos_right h1 (by omega)
  omega
theorem writes_at {f : Int → Bool} (hf : ∀ i j, i ≤ j → f i = true → f j = true) {cs : List Rt} {s : Rt} (o : OkC cs) (h0 : 0 ≤ s.1) (h1 : s.1 ≤ s.2) {l : List Nat} (hl : l ∈ middleN cs.length) :
    containsN (leastN cs.length (writesN f cs s)) l = true ↔ f (gainN cs s l) = true := by
  have okw := o.writes (f := f) (s := s)
  obtain ⟨hla, hlen⟩ := List.mem_filter.mp hl
  rw [Bool.and_eq_true] at hlen
  rw [contains_least okw.n5 okw.mem, contains_iff]
  constructor
  · rintro ⟨m, hm, hml⟩
    rcases List.mem_append.mp hm with q | q
    · obtain ⟨q1, q2⟩ := List.mem_filter.mp q
      exact hf _ _ (gain_mono o h0 h1 (List.mem_filter.mp q1).1 hla (ov_mono o.all hml)) q2
    · exfalso
      rw [List.mem_singleton.mp q] at hml
      have := lot_ext hla (range_mem _) fun c => ⟨fun z => List.mem_range.mpr (allLots_lt hla c z), hml c⟩
      rw [this, List.length_range] at hlen
      have := of_decide_eq_true hlen.2
      omega
  · intro h
    exact ⟨l, List.mem_append_left _ (List.mem_filter.mpr ⟨hl, h⟩), fun _ z => z⟩
theorem writes_notr {f : Int → Bool} (hf : ∀ i j, i ≤ j → f i = true → f j = true) {cs : List Rt} {s : Rt} (o : OkC cs) (h0 : 0 ≤ s.1) (h1 : s.1 ≤ s.2) : NoTr cs.length (leastN cs.length (writesN f cs s)) := by
  refine notr_sep o.writes.least (fun l => overN l 0 cs) (fun l => ov_pos o.all) (fun a b c d h => ov_prod o h) fun g1 hg1 g2 hg2 t1 ht1 t2 ht2 a1 a2 b1 b2 _ e => ?_
  have lt : ∀ {g t}, g ∈ middleN cs.length → t ∈ middleN cs.length → containsN (leastN cs.length (writesN f cs s)) g = true → containsN (leastN cs.length (writesN f cs s)) t = false → overN t 0 cs < overN g 0 cs := fun {g t} hg ht a b => by
    refine Classical.byContradiction fun z => ?_
    have := (writes_at hf o h0 h1 hg).mp a
    have := (writes_at hf o h0 h1 ht).mpr (hf _ _ (gain_mono o h0 h1 (List.mem_filter.mp hg).1 (List.mem_filter.mp ht).1 (by omega)) this)
    rw [b] at this; cases this
  have := mul_lt4 (ov_pos (l := t1) (i := 0) o.all) (ov_pos (l := t2) (i := 0) o.all) (lt hg1 ht1 a1 b1) (lt hg2 ht2 a2 b2)
  have e : overN g1 0 cs * overN g2 0 cs = overN t1 0 cs * overN t2 0 cs := e
  omega
end K72

-- K72Plain9
set_option Elab.async false
set_option linter.all false
set_option maxRecDepth 100000
set_option maxHeartbeats 2000000
/-! The plain law: heavy leaves no trade. -/
namespace K72
open PySem PySem.Spec PyProof.Rows L2
theorem prod_filter {f : Nat → Int} {p : Nat → Bool} : ∀ r : List Nat, prodI ((r.filter p).map f) = prodI (r.map fun c => if p c = true then f c else 1)
  | [] => rfl
  | x :: r => by
    have ih := prod_filter (f := f) (p := p) r
    rw [List.filter_cons]
    by_cases q : p x = true
    · rw [if_pos q]
      show f x * prodI _ = (if p x = true then f x else 1) * prodI _
      rw [if_pos q, ih]
    · rw [if_neg q]
      show _ = (if p x = true then f x else 1) * prodI _
      rw [if_neg q, Int.one_mul, ih]
theorem prod_mul {f g : Nat → Int} : ∀ r : List Nat, prodI (r.map f) * prodI (r.map g) = prodI (r.map fun c => f c * g c)
  | [] => rfl
  | x :: r => by
    have ih := prod_mul (f := f) (g := g) r
    show f x * prodI (r.map f) * (g x * prodI (r.map g)) = f x * g x * prodI (r.map fun c => f c * g c)
    rw [← ih, Int.mul_assoc, Int.mul_assoc, ← Int.mul_assoc (prodI (r.map f)) (g x), Int.mul_comm (prodI (r.map f)) (g x), Int.mul_assoc (g x)]
theorem over_range (l : List Nat) : ∀ (cs : List Rt) (i : Nat), overN l i cs = prodI ((List.range' i cs.length).map fun c => if l.contains c = true then (rtAt cs (c - i)).1 else (rtAt cs (c - i)).2 - (rtAt cs (c - i)).1)
  | [], _ => rfl
  | k :: r, i => by
    have ih := over_range l r (i + 1)
    show (if l.contains i = true then k.1 else k.2 - k.1) * overN l (i + 1) r = (if l.contains i = true then (rtAt (k :: r) (i - i)).1 else (rtAt (k :: r) (i - i)).2 - (rtAt (k :: r) (i - i)).1) * prodI ((List.range' (i + 1) r.length).map fun c => if l.contains c = true then (rtAt (k :: r) (c - i)).1 else (rtAt (k :: r) (c - i)).2 - (rtAt (k :: r) (c - i)).1)
    have e0 : rtAt (k :: r) (i - i) = k := by rw [Nat.sub_self]; rfl
    rw [e0, ih]
    congr 2
    apply List.map_congr_left
    intro c hc
    have := (List.mem_range'_1.mp hc).1
    have e : c - i = (c - (i + 1)) + 1 := by omega
    have e1 : rtAt (k :: r) (c - i) = rtAt r (c - (i + 1)) := by rw [e]; rfl
    rw [e1]
theorem w_over {cs : List Rt} {l : List Nat} (hl : l ∈ allLots cs.length) : wO cs l * wU cs (others cs.length l) = overN l 0 cs := by
  rw [over_range l cs 0, ← List.range_eq_range']
  unfold wO wU
  have h1 : others cs.length l = (List.range cs.length).filter fun c => !(l.contains c) := by unfold others; rw [lotOf_self hl]
  rw [h1]
  conv => lhs; lhs; rw [← filt_self hl]
  rw [prod_filter, prod_filter, prod_mul]
  congr 1
  apply List.map_congr_left
  intro c _
  cases q : l.contains c <;> simp
end K72

-- K72Plain10
set_option Elab.async false
set_option linter.all false
set_option maxRecDepth 100000
set_option maxHeartbeats 2000000
/-! The plain law: heavy leaves no trade. -/
namespace K72
open PySem PySem.Spec PyProof.Rows L2
theorem heavy_w {cs : List Rt} {l : List Nat} (hl : l ∈ allLots cs.length) : heavierN cs l = if overN l 0 cs = overN (others cs.length l) 0 cs then l.contains 0 else decide (overN (others cs.length l) 0 cs < overN l 0 cs) := by
  have h1 := w_over hl
  have h2 := w_over (cs := cs) (others_mem cs.length l)
  rw [others_others hl] at h2
  unfold heavierN
  rw [h1, h2]
theorem heavier_mono {cs : List Rt} (o : OkC cs) {a b : List Nat} (ha : a ∈ allLots cs.length) (hb : b ∈ allLots cs.length) (h : ∀ c ∈ a, c ∈ b) (hv : heavierN cs a = true) : heavierN cs b = true := by
  have m1 := ov_mono (i := 0) o.all h
  have m2 := ov_anti o ha hb m1
  rw [heavy_w ha] at hv
  rw [heavy_w hb]
  by_cases e : overN a 0 cs = overN (others cs.length a) 0 cs
  · rw [if_pos e] at hv
    by_cases e2 : overN b 0 cs = overN (others cs.length b) 0 cs
    · rw [if_pos e2]
      exact List.contains_iff_mem.mpr (h 0 (List.contains_iff_mem.mp hv))
    · rw [if_neg e2]
      exact decide_eq_true (by omega)
  · rw [if_neg e] at hv
    have := of_decide_eq_true hv
    rw [if_neg (by omega)]
    exact decide_eq_true (by omega)
theorem heavy_at {cs : List Rt} (o : OkC cs) {l : List Nat} (hl : l ∈ allLots cs.length) : containsN (leastN cs.length (heavyLots cs)) l = heavierN cs l := by
  have okh := o.heavy
  rw [contains_least okh.n5 okh.mem, Bool.eq_iff_iff, contains_iff]
  constructor
  · rintro ⟨m, hm, hml⟩
    obtain ⟨h1, h2⟩ := List.mem_filter.mp hm
    exact heavier_mono o h1 hl hml h2
  · intro h
    exact ⟨l, List.mem_filter.mpr ⟨hl, h⟩, fun _ z => z⟩
theorem heavy_le {cs : List Rt} (o : OkC cs) {g t : List Nat} (hg : g ∈ allLots cs.length) (ht : t ∈ allLots cs.length) (a : heavierN cs g = true) (b : heavierN cs t = false) :
    overN t 0 cs ≤ overN g 0 cs ∧ (overN t 0 cs = overN g 0 cs → 0 ∈ g ∧ ¬ 0 ∈ t) := by
  rw [heavy_w hg] at a
  rw [heavy_w ht] at b
  refine ⟨Classical.byContradiction fun z => ?_, fun e => ?_⟩
  · have z : overN g 0 cs < overN t 0 cs := by omega
    have m := ov_anti o hg ht (by omega)
    have hg' : overN (others cs.length g) 0 cs ≤ overN g 0 cs := by
      by_cases e : overN g 0 cs = overN (others cs.length g) 0 cs
      · omega
      · rw [if_neg e] at a
        have := of_decide_eq_true a
        omega
    rw [if_neg (by omega)] at b
    have := of_decide_eq_false b
    omega
  · have m1 := ov_anti o hg ht (by omega)
    have m2 := ov_anti o ht hg (by omega)
    by_cases e1 : overN g 0 cs = overN (others cs.length g) 0 cs
    · rw [if_pos e1] at a
      rw [if_pos (by omega)] at b
      exact ⟨List.contains_iff_mem.mp a, fun z => by rw [List.contains_iff_mem.mpr z] at b; cases b⟩
    · rw [if_neg e1] at a
      have := of_decide_eq_true a
      rw [if_neg (by omega)] at b
      have := of_decide_eq_false b
      omega
theorem heavy_notr {cs : List Rt} (o : OkC cs) : NoTr cs.length (leastN cs.length (heavyLots cs)) := by
  refine notr_sep o.heavy.least (fun l => overN l 0 cs) (fun l => ov_pos o.all) (fun a b c d h => ov_prod o h) fun g1 hg1 g2 hg2 t1 ht1 t2 ht2 a1 a2 b1 b2 ht e => ?_
  have mem : ∀ {l}, l ∈ middleN cs.length → l ∈ allLots cs.length := fun h => (List.mem_filter.mp h).1
  rw [heavy_at o (mem hg1)] at a1
  rw [heavy_at o (mem hg2)] at a2
  rw [heavy_at o (mem ht1)] at b1
  rw [heavy_at o (mem ht2)] at b2
  obtain ⟨l1, q1⟩ := heavy_le o (mem hg1) (mem ht1) a1 b1
  obtain ⟨l2, q2⟩ := heavy_le o (mem hg2) (mem ht2) a2 b2
  have p1 := ov_pos (l := g1) (i := 0) o.all
  have p2 := ov_pos (l := g2) (i := 0) o.all
  have p3 := ov_pos (l := t1) (i := 0) o.all
  have p4 := ov_pos (l := t2) (i := 0) o.all
  have e : overN g1 0 cs * overN g2 0 cs = overN t1 0 cs * overN t2 0 cs := e
  have e1 : overN t1 0 cs = overN g1 0 cs := Classical.byContradiction fun z => by
    have h1 : overN t1 0 cs * overN t2 0 cs < overN g1 0 cs * overN t2 0 cs := Int.mul_lt_mul_of_pos_right (by omega) p4
    have h2 : overN g1 0 cs * overN t2 0 cs ≤ overN g1 0 cs * overN g2 0 cs := Int.mul_le_mul_of_nonneg_left l2 (by omega)
    omega
  have e2 : overN t2 0 cs = overN g2 0 cs := Classical.byContradiction fun z => by
    have h1 : overN t1 0 cs * overN t2 0 cs < overN t1 0 cs * overN g2 0 cs := Int.mul_lt_mul_of_pos_left (by omega) p3
    have h2 : overN t1 0 cs * overN g2 0 cs ≤ overN g1 0 cs * overN g2 0 cs := Int.mul_le_mul_of_nonneg_right l1 (by omega)
    omega
  obtain ⟨z1, z2⟩ := q1 e1
  obtain ⟨z3, z4⟩ := q2 e2
  have := tally_at ht (show 0 < 5 by decide)
  rw [inN_one.mpr z1, inN_one.mpr z3] at this
  have n1 : inN 0 t1 ≠ 1 := fun z => z2 (inN_one.mp z)
  have n2 := @inN_le 0 t1
  have n3 := @inN_le 0 t2
  omega
end K72

-- K72Law9
set_option Elab.async false
set_option linter.all false
set_option maxRecDepth 100000
set_option maxHeartbeats 4000000
/-! The law's own defs: _law_votes_hold. -/
namespace K72
open PySem PySem.Spec PyProof.Rows L2
section
variable {P : Program} {w : World} {K : PySem.W.Frag} {mg : Str → Option Value} {base : Heap}
theorem Ft.ob_Family (T : Ft K mg) : PySem.W.mroIn K (He.ga K "Family") (.type "object") = some true := of_decide_eq_true (He.ba (T.xt 1)).2
def spVH (K : PySem.W.Frag) : Sp := fun us H Q _ => ∃ (x : Addr) (n : Nat) (ls : List (List Nat)), us = [.ref x] ∧ FamAt K H x n ls ∧ (∃ ms, OkL n ms ∧ ls = leastN n ms) ∧ n ≤ 4 ∧ ∀ H', Same H H' → Q (.bl true) H'
abbrev nm_vh : List Str := ["_law_family", "_law_votes", "_law_trade"]
theorem sc_vh : FnScope nm_vh ["_law_family"] (defScope s__law_votes_hold) := ⟨rfl, rfl, rfl, by decide +kernel, rfl, by decide +kernel, by decide +kernel⟩
theorem r_vh (T : Ft K mg) : CalR P w K mg base 17 "_law_votes_hold" (spVH K) := by
  refine cal_of T.g__law_votes_hold T.f__law_votes_hold sc_vh (fun _ _ _ _ _ _ us hl => match us, hl with | [_], _ => rfl) (fun vs H Q E h => ?_) fun cdv A outer s0 H us Q E hr h => ?_
  · obtain ⟨_, _, _, rfl, _⟩ := h; rfl
  · obtain ⟨x, n, ls, rfl, fx, ⟨ms, okm, rfl⟩, h4, hq⟩ := h
    have ok := okm.least
    obtain ⟨dx, t, as, hx, ht, hl⟩ := id fx
    refine ⟨_, pss_cons (ps_set (i := 1) sc_vh.nd rfl (.inl rfl) (pe_cr (r_find T) hr (by decide) rfl (pa_cons (pv 0) pa_nil)))
      (pss_cons (ps_set (i := 2) sc_vh.nd rfl (.inl rfl) (pe_cr (r_ft T) hr (by decide) rfl (pa_cons (pv 0) pa_nil)))
      (pss_cons (ps_if (pt_cmp (pc_isN (pv 1))) (pss_one (ps_ret (pe_and (pe_cmp (pc_gt (pe_fldK K (pv 0)) pe_int) rfl) (pe_one (pe_or (pe_cmp (pc_isN (pv 2)) rfl) (pe_one (pe_cmpR op_is_bl (pe_cr (r_ct T) hr (by decide) rfl (pa_cons (pv 0) (pa_cons (pv 2) pa_nil))) pe_bl (nomark _)))))))) pss_nil)
      (pss_cons (ps_if (PW.pt (pw_or (pt_cmp (pc_notN (pv 2)))
          (pw_or (pt_cmpR (op_neI (m_feq T) T.ne_Family T.ob_Family hr (by decide)) (pe_mr0 (m_vfam T) hr (by decide) (pv 1)) (pv 0) (nomark _))
          (pw_or1 (pt_cmpR (op_neI (m_feq T) T.ne_Family T.ob_Family hr (by decide)) (pe_mr0 (m_vfam T) hr (by decide) (pe_mr0 (m_vdual T) hr (by decide) (pv 1))) (pe_mr0 (m_dual T) hr (by decide) (pv 0)) (nomark _)))))) (pss_one (ps_ret pe_bl)) pss_nil)
      (pss_cons (ps_if (pt_cmp (pc_isN (pe_cr (r_find T) hr (by decide) rfl (pa_cons (pe_mr0 (m_dual T) hr (by decide) (pv 0)) pa_nil)))) (pss_one (ps_ret pe_bl)) pss_nil)
      (pss_cons (ps_if (pt_cmp (pc_lt (pe_fldK K (pv 0)) pe_int)) (pss_one (ps_ret (pe_cmpR (op_eqK K hr.units) (pe_fldK K (pe_cr (r_find T) hr (by decide) rfl (pa_cons (pe_mr0 (m_wider T) hr (by decide) (pv 0)) pa_nil))) (pe_op (op_catK K) (pe_fldK K (pv 1)) (pe_tup (pa_cons pe_int pa_nil))) (nomark _)))) pss_nil)
      (pss_one (ps_ret pe_bl))))))), ?_⟩
    cases hf : findVotes n (leastN n ms) with
    | none =>
      have h3 : ¬ n ≤ 3 := fun z => by
        obtain ⟨q, vs, q', a, b⟩ := find_three okm z
        rw [hf] at a; cases a
      refine ⟨_, rfl, x, n, _, rfl, fx, ok, h4, fun _ H1 e1 => ?_, fun q vs h => by rw [hf] at h; cases h⟩
      have f1 := fx.same e1
      refine ⟨_, rfl, x, n, _, rfl, f1, ok, fun H2 e2 notr => ?_, fun p H2 g1 t1 g2 t2 e2 tr td => ?_⟩
      · refine ⟨_, rfl, _, rfl, iteT ?_⟩
        refine ⟨_, rfl, x, _, dx, _, _, rfl, (e1.trans e2) _ _ hx, T.c_Family, T.n_Family_copies, f2_a (by decide), _, _, rfl, rfl, _, rfl, ?_⟩
        refine iteTd (by omega) ?_
        exact ⟨_, rfl, _, rfl, iteT (hq _ (e1.trans e2))⟩
      · refine ⟨_, rfl, _, rfl, iteT ?_⟩
        refine ⟨_, rfl, x, _, dx, _, _, rfl, (e1.trans e2) _ _ hx, T.c_Family, T.n_Family_copies, f2_a (by decide), _, _, rfl, rfl, _, rfl, ?_⟩
        refine iteTd (by omega) ?_
        refine ⟨_, rfl, _, rfl, iteF ?_⟩
        refine ⟨_, rfl, _, rfl, x, p, n, _, g1, t1, g2, t2, rfl, f1.same e2, ok, tr, td, fun H3 e3 => ?_⟩
        exact ⟨_, _, rfl, rfl, hq _ ((e1.trans e2).trans e3)⟩
    | some r =>
      obtain ⟨q, vs⟩ := r
      refine ⟨_, rfl, x, n, _, rfl, fx, ok, h4, fun z => (by rw [hf] at z; cases z), fun q' vs' h okv hlen y H1 e1 hv => ?_⟩
      rw [hf] at h
      injection h with h
      injection h with hq1 hv1
      subst hq1 hv1
      obtain ⟨i, hi, hr1, hqf⟩ := find_row hf
      have quo := quo_of ok (rowsN_length hr1) hqf
      have f1 := fx.same e1
      refine ⟨_, rfl, x, n, _, rfl, f1, ok, fun H2 e2 notr => ?_, fun p H2 g1 t1 g2 t2 e2 tr td => absurd td (quo_notrade ok quo _ _ _ _)⟩
      have e12 := e1.trans e2
      have hv2 := hv.same e2
      obtain ⟨dy, ty, hy, hyt⟩ := id hv2
      refine ⟨_, rfl, _, rfl, iteF ?_⟩
      refine ⟨_, rfl, _, rfl, iteF ?_⟩
      refine ⟨_, rfl, y, dy, _, rfl, hy, f2_no (by decide) (by decide), y, q, vs, rfl, hv2, okv, fun p H3 hp e3 hf3 => ?_⟩
      have e13 := e12.trans e3
      have fx3 := fx.same e13
      obtain ⟨d3, t3, as3, hp3, _, _⟩ := id hf3
      have eFam : vFam q vs = leastN n ms := quo_fam okm quo
      have eDual : vFam (vs.sum + 1 - q) vs = dualN n (leastN n ms) := quo_dual quo okv.qs
      refine ⟨_, rfl, p, d3, _, x, dx, _, rfl, rfl, hp3, e13 _ _ hx, p, x, vs.length, n, vFam q vs, leastN n ms, rfl, hf3, fx3, _, rfl, _, rfl, ?_⟩
      refine iteFb (by rw [decide_eq_true hlen, decide_eq_true eFam]; rfl) ?_
      have hv3 := hv2.same e3
      have hy3 := e3 _ _ hy
      refine ⟨_, rfl, y, dy, _, rfl, hy3, f2_no (by decide) (by decide), y, q, vs, rfl, hv3, okv, fun y4 H4 hy4 e4 hv4 => ?_⟩
      obtain ⟨d4, t4, hy44, _⟩ := id hv4
      refine ⟨y4, d4, _, rfl, hy44, f2_no (by decide) (by decide), y4, vs.sum + 1 - q, vs, rfl, hv4, okv.dual, fun p5 H5 hp5 e5 hf5 => ?_⟩
      have e15 := (e13.trans e4).trans e5
      refine ⟨_, rfl, x, dx, _, rfl, e15 _ _ hx, f2_no (by decide) (by decide), x, n, _, rfl, fx.same e15, ok, fun p6 H6 hp6 e6 hf6 => ?_⟩
      have e16 := e15.trans e6
      have hf56 := hf5.same e6
      obtain ⟨d5, t5, as5, hp55, _, _⟩ := id hf56
      obtain ⟨d6, t6, as6, hp66, _, _⟩ := id hf6
      refine ⟨p5, d5, _, p6, d6, _, rfl, rfl, hp55, hp66, p5, p6, vs.length, n, _, _, rfl, hf56, hf6, _, rfl, _, rfl, ?_⟩
      refine iteFb (by rw [decide_eq_true hlen, decide_eq_true eDual]; rfl) ?_
      -- the dual's votes
      refine ⟨_, rfl, x, dx, _, rfl, e16 _ _ hx, f2_no (by decide) (by decide), x, n, _, rfl, fx.same e16, ok, fun p7 H7 hp7 e7 hf7 => ?_⟩
      have okd : OkL n (dualN n (leastN n ms)) := ok.dual.least
      refine ⟨p7, n, _, rfl, hf7, okd, h4, fun z => absurd z (find_dual ok hf), fun q8 vs8 _ _ _ y8 H8 e8 hv8 => ?_⟩
      refine ⟨_, rfl, iteF ?_⟩
      have e18 := (e16.trans e7).trans e8
      -- the wider family
      refine ⟨_, rfl, x, _, dx, _, _, rfl, e18 _ _ hx, T.c_Family, T.n_Family_copies, f2_a (by decide), _, _, rfl, rfl, _, rfl, ?_⟩
      by_cases h3 : n < 4
      · refine iteTd (by omega) ?_
        obtain ⟨q0, vs0, q', a0, b0⟩ := find_three okm (by omega)
        rw [hf] at a0
        injection a0 with a0
        injection a0 with _ a0
        subst a0
        refine ⟨_, rfl, x, dx, _, rfl, e18 _ _ hx, f2_no (by decide) (by decide), x, n, _, rfl, fx.same e18, ok, h4, fun p9 H9 hp9 e9 hf9 => ?_⟩
        have okw : OkL (n + 1) (leastN (n + 1) (leastN n ms)) := (ok.wider h4).least
        refine ⟨p9, n + 1, _, rfl, hf9, okw, by omega, fun z => (by rw [b0] at z; cases z), fun q10 vs10 hf10 _ _ y10 H10 e10 hv10 => ?_⟩
        rw [b0] at hf10
        injection hf10 with hf10
        injection hf10 with _ hf10
        subst hf10
        obtain ⟨d10, t10, hy10, ht10⟩ := hv10
        have hy11 := (((((e3.trans e4).trans e5).trans e6).trans e7).trans e8 |>.trans e9 |>.trans e10) _ _ hy
        have hyt11 := Same.tup (((((e3.trans e4).trans e5).trans e6).trans e7).trans e8 |>.trans e9 |>.trans e10) hyt
        refine ⟨y10, _, d10, _, _, rfl, hy10, T.c_Votes, T.n_Votes_votes, f2_b, ?_⟩
        refine ⟨_, rfl, y, _, dy, _, _, rfl, hy11, T.c_Votes, T.n_Votes_votes, f2_b, line_of (by show 1 ≤ 100000; decide), fun tp htp => ?_⟩
        have e12 : Same H10 (upd H10 tp (.tup [.int 0])) := Same.new htp
        have v1 := okv.n1
        have v5 := okv.n5
        refine ⟨ty, tp, vs.map vi, [.int 0], rfl, rfl, Same.tup e12 hyt11, SqT.of upd_same, line_of (by rw [List.length_map]; show vs.length + 1 ≤ 100000; omega), fun z => ?_, fun _ z => (by cases z), fun _ _ r hr => ?_⟩
        · have : vs = [] := List.map_eq_nil_iff.mp z
          rw [this] at v1
          exact absurd v1 (by decide)
        · have e13 := e12.trans (Same.new (o := .tup (vs.map vi ++ [.int 0])) hr)
          refine ⟨dL (vs ++ [0]), dL (vs ++ [0]), dp_lot (Same.tup e13 ht10), dp_lot (SqT.of ?_), shaped_dL _, shaped_dL _, ?_⟩
          · rw [List.map_append]
            exact upd_same
          · rw [eqv_dL, decide_eq_true rfl]
            exact hq _ (((((e18.trans e9).trans e10).trans e13)))
      · refine iteFd (by omega) ?_
        exact hq _ e18
end
end K72

-- K72Law10
set_option Elab.async false
set_option linter.all false
set_option maxRecDepth 100000
set_option maxHeartbeats 4000000
/-! The law. -/
namespace K72
open PySem PySem.Spec PyProof.Rows L2
theorem oks_norm {o u : Nat} {a b : Int} (h1 : 1 ≤ u) (h8 : u ≤ 8) (h : o ≤ u) (n : Norm (o : Nat) (u : Nat) a b) : OkS (a, b) := by
  have hp := n.ok.pos
  have he := n.eq
  have hl := n.le
  have hu : (0 : Int) < (u : Nat) := by omega
  refine ⟨n.ok, ?_, ?_, ?_⟩
  · show 0 ≤ a
    refine Classical.byContradiction fun z => ?_
    have h1 : a * (u : Nat) < 0 := Int.mul_neg_of_neg_of_pos (by omega) hu
    have h2 : 0 ≤ ((o : Nat) : Int) * b := Int.mul_nonneg (by omega) (by omega)
    omega
  · show a ≤ b
    have h1 : a * (u : Nat) ≤ b * (u : Nat) := by
      rw [he, Int.mul_comm b]
      exact Int.mul_le_mul_of_nonneg_right (by omega) (by omega)
    exact Int.le_of_mul_le_mul_right h1 hu
  · show b ≤ 8
    omega
section
variable {P : Program} {w : World} {K : PySem.W.Frag} {mg : Str → Option Value} {base : Heap}
def spLaw (K : PySem.W.Frag) : Sp := fun us H Q _ => ∃ (s : Addr) (ns : List Int), us = [.ref s] ∧ SqL K H s (ns.map V.int) ∧ ns.length < 1000 ∧ ∀ H', Q (.bl true) H'
abbrev nm_law : List Str := ["_law_script", "_law_state", "_law_raw", "_law_pair", "_law_share_here", "_law_chances_here", "_law_family"]
theorem sc_law : FnScope nm_law ["_law_script"] (defScope s_law) := ⟨rfl, rfl, rfl, by decide +kernel, rfl, by decide +kernel, by decide +kernel⟩
theorem b_law (T : Ft K mg) : Body P w K mg base "law" s_law (He.ga K "law") nm_law 17 (spLaw K) := by
  intro cdv A outer s0 H us Q E hr h
  obtain ⟨s, ns, rfl, hs, hns, hq⟩ := h
  refine ⟨_, pss_cons (ps_set (i := 1) sc_law.nd rfl (.inl rfl) (pe_cr (r_law_start T) hr (by decide) rfl (pa_cons (pv 0) pa_nil)))
    (pss_cons (ps_set (i := 2) sc_law.nd rfl (.inl rfl) (pe_cr (r_law_chances T) hr (by decide) rfl (pa_cons (pv 0) (pa_cons (pv 1) (pa_cons (pe_ix (ix_lstK K) (pe_lst (pa_cons pe_int (pa_cons pe_int (pa_cons pe_int (pa_cons pe_int pa_nil)))))
        (pe_cr (r_law_draw T) hr (by decide) rfl (pa_cons (pv 0) (pa_cons (pv 1) (pa_cons pe_int pa_nil)))) (fun _ _ => rfl)) pa_nil)))))
    (pss_cons (ps_set (i := 3) sc_law.nd rfl (.inl rfl) (pe_cr (r_law_share T) hr (by decide) rfl (pa_cons (pv 0) (pa_cons (pv 1) pa_nil))))
    (pss_cons (ps_set (i := 4) sc_law.nd rfl (.inl rfl) (pe_kr (mk_rat T) hr (by decide) rfl (pa_cons (pe_ix (ix_tupK K) (pv 3) pe_int (fun _ _ => rfl)) (pa_cons (pe_ix (ix_tupK K) (pv 3) pe_int (fun _ _ => rfl)) pa_nil))))
    (pss_cons (ps_set (i := 5) sc_law.nd rfl (.inl rfl) (pe_cr (r_law_made T) hr (by decide) rfl (pa_cons (pv 2) pa_nil)))
    (pss_cons (ps_for PassesOwn.never rfl (pi_list (pe_lst (pa_cons (pe_cr (r_least T) hr (by decide) rfl (pa_cons (pv 5) (pa_cons (pv 4) pa_nil))) (pa_cons (pe_cr (r_greatest T) hr (by decide) rfl (pa_cons (pv 5) (pa_cons (pv 4) pa_nil)))
        (pa_cons (pe_cr (r_heavy T) hr (by decide) rfl (pa_cons (pv 5) pa_nil)) pa_nil))))) (pg_name (i := 6) sc_law.nd rfl (.inl rfl))
      (pss_one (ps_if (PW.pt (pw_or (pt_cmp (pc_notN (pe_cr (r_ft T) hr (by decide) rfl (pa_cons (pv 6) pa_nil)))) (pw_or1 (pt_not (pt_val (pe_cr (r_vh T) hr (by decide) rfl (pa_cons (pv 6) pa_nil))))))) (pss_one (ps_ret pe_bl)) pss_nil)))
    (pss_one (ps_ret (pe_cr (r_vh T) hr (by decide) rfl (pa_cons (pe_cr (r_law_some T) hr (by decide) rfl (pa_cons (pv 0) (pa_cons (pv 1) (pa_cons (pe_callB (call_lenK K) rfl T.z_len boot_len (pa_cons (pv 2) pa_nil)) pa_nil)))) pa_nil))))))))), ?_⟩
  refine ⟨_, rfl, s, ns, rfl, hs, fun st H1 a1 b1 hst e1 h1 => ?_⟩
  have ap := Ap.of hs hst
  -- the number of copies at most
  refine ⟨_, rfl, _, rfl, line_of (by show 4 ≤ 100000; decide), fun L hL => ?_⟩
  have e2 : Sb st H (upd H1 L (.lst [.int 3, .int 3, .int 3, .int 4])) := (Sb.of e1).trans (Sb.of (Same.new hL))
  have hLst : L ≠ st := fun z => by rw [z, h1] at hL; cases hL
  have h2 : StL (upd H1 L (.lst [.int 3, .int 3, .int 3, .int 4])) st a1 b1 1 0 := by show _ = _; rw [upd_ne (Ne.symm hLst)]; exact h1
  have l2 : (upd H1 L (.lst [.int 3, .int 3, .int 3, .int 4])) L = some (.lst [.int 3, .int 3, .int 3, .int 4]) := upd_same
  generalize upd H1 L (.lst [.int 3, .int 3, .int 3, .int 4]) = H2 at e2 h2 l2
  refine ⟨_, rfl, _, rfl, s, st, ns, a1, b1, 1, 0, 4, rfl, e2.sqL ap hs, h2, ap, hns, by decide, by decide, by decide, by decide, fun r a3 b3 c3 hr3 => ?_⟩
  have e3 : Sb st H2 (upd H2 st (.lst [.int a3, .int b3, .int c3, .int (0 + 1)])) := Sb.upd
  have h3 : StL (upd H2 st (.lst [.int a3, .int b3, .int c3, .int (0 + 1)])) st a3 b3 c3 (0 + 1) := upd_same
  have l3 := e3 _ _ hLst l2
  generalize upd H2 st (.lst [.int a3, .int b3, .int c3, .int (0 + 1)]) = H3 at e3 h3 l3
  have e03 := e2.trans e3
  obtain ⟨most, hm, hm1, hm4⟩ : ∃ most : Nat, atI ([.int 3, .int 3, .int 3, .int 4] : List V) (r : Int) = some (vi most) ∧ 1 ≤ most ∧ most ≤ 4 := by
    have : r = 0 ∨ r = 1 ∨ r = 2 ∨ r = 3 := by omega
    rcases this with rfl | rfl | rfl | rfl
    · exact ⟨3, rfl, by decide, by decide⟩
    · exact ⟨3, rfl, by decide, by decide⟩
    · exact ⟨3, rfl, by decide, by decide⟩
    · exact ⟨4, rfl, by decide, by decide⟩
  refine ⟨L, _, _, vi most, rfl, rfl, SqL.of l3, hm, ?_⟩
  refine ⟨s, st, ns, a3, b3, c3, 0 + 1, most, rfl, e03.sqL ap hs, h3, ap, hns, by decide, by decide, hm1, hm4, fun raw as rs a4 b4 c4 d4 H4 hraw e4 h4 hd41 hd42 hraw4 hrs okrs hrs1 hrs4 => ?_⟩
  have e04 := e03.trans e4
  have hrawst : raw ≠ st := fun z => by rw [z] at hraw; rw [h3] at hraw; cases hraw
  -- the share
  refine ⟨_, rfl, _, rfl, s, st, ns, a4, b4, c4, d4, rfl, e04.sqL ap hs, h4, ap, hns, hd41, by omega, fun pr o u a5 b5 c5 d5 H5 hpr e5 h5 hd51 hd52 hpr5 hu1 hu8 hou => ?_⟩
  have e05 := e04.trans e5
  have hraw5 := e5 _ _ hrawst hraw4
  have hrs5 := hrs.x (e5.x h4)
  refine ⟨_, rfl, pr, _, 0, vi o, rfl, rfl, SqT.of hpr5, rfl, _, rfl, pr, _, 1, vi u, rfl, rfl, SqT.of hpr5, rfl, ?_⟩
  refine rat_k ⟨(o : Nat), (u : Nat), rfl, by omega, by omega, fun sh H6 so su hsh e6 nsh rsh => ?_⟩
  have oks := oks_norm hu1 hu8 hou nsh
  have e06 := e05.trans (Sb.of e6)
  have hraw6 := e6 _ _ hraw5
  have hrs6 := hrs5.x e6.x
  -- the chances
  refine ⟨_, rfl, raw, as, rs, rfl, SqL.of hraw6, hrs6, okrs, hrs1, by omega, fun ch cs H7 e7 hch okc hcl => ?_⟩
  have e67 := e6.trans e7
  have h7 := e67 _ _ h5
  have e07 := e06.trans (Sb.of e7)
  have hraw7 := e7 _ _ hraw6
  -- the three families
  refine ⟨_, rfl, _, rfl, ch, sh, cs, (so, su), rfl, hch, okc, rsh.same e7, oks, fun f1 H8 hf1 e8 fam1 => ?_⟩
  refine ⟨_, rfl, _, rfl, ch, sh, cs, (so, su), rfl, hch.same e8, okc, rsh.same (e7.trans e8), oks, fun f2 H9 hf2 e9 fam2 => ?_⟩
  have e79 := e8.trans e9
  refine ⟨_, rfl, ch, cs, rfl, hch.same e79, okc, fun f3 H10 hf3 e10 fam3 => ?_⟩
  have e710 := e79.trans e10
  refine ⟨line_of (by show 3 ≤ 100000; decide), fun L2 hL2 => ?_⟩
  have e11 : Same H10 (upd H10 L2 (.lst [.ref f1, .ref f2, .ref f3])) := Same.new hL2
  have l11 : (upd H10 L2 (.lst [.ref f1, .ref f2, .ref f3])) L2 = some (.lst [.ref f1, .ref f2, .ref f3]) := upd_same
  generalize upd H10 L2 (.lst [.ref f1, .ref f2, .ref f3]) = H11 at e11 l11
  have e711 := e710.trans e11
  refine ⟨L2, rfl, ⟨_, SqL.of l11⟩, for_walk (walk_lst (SqL.of l11)) (fun i σ H' => Same H11 H' ∧ ∃ v6, σ = [some (.ref s), some (.ref st), some (.ref raw), some (.ref pr), some (.ref sh), some (.ref ch), v6]) ⟨Same.refl _, none, rfl⟩ (fun i σ H' h => h.1) ?_ ?_⟩
  · rintro i y σ H12 hy ⟨e12, v6, rfl⟩
    have fam : ∃ f ms, y = V.ref f ∧ FamAt K H11 f cs.length (leastN cs.length ms) ∧ OkL cs.length ms ∧ NoTr cs.length (leastN cs.length ms) := by
      match i, hy with
      | 0, hy => exact ⟨f1, _, (Option.some.inj hy).symm, fam1.same ((e9.trans e10).trans e11), okc.writes, writes_notr (fun i j h a => decide_eq_true (by have := of_decide_eq_true a; omega)) okc oks.lo oks.le⟩
      | 1, hy => exact ⟨f2, _, (Option.some.inj hy).symm, fam2.same (e10.trans e11), okc.writes, writes_notr (fun i j h a => decide_eq_true (by have := of_decide_eq_true a; omega)) okc oks.lo oks.le⟩
      | 2, hy => exact ⟨f3, _, (Option.some.inj hy).symm, fam3.same e11, okc.heavy, heavy_notr okc⟩
    obtain ⟨f, ms, rfl, hf, okm, ntr⟩ := fam
    refine ⟨_, rfl, f, cs.length, _, rfl, hf.same e12, okm.least, fun H13 e13 _ => ?_, fun p H13 g1 t1 g2 t2 e13 _ td => absurd td (ntr _ _ _ _)⟩
    refine ⟨_, rfl, iteF ?_⟩
    refine ⟨_, rfl, f, cs.length, _, rfl, hf.same (e12.trans e13), ⟨ms, okm, rfl⟩, okc.n4, fun H14 e14 => ⟨_, rfl, ?_⟩⟩
    exact iteF ⟨(e12.trans e13).trans e14, _, rfl⟩
  · rintro σ H12 ⟨e12, v6, rfl⟩
    have e712 := e711.trans e12
    have e012 := e07.trans (Sb.of e712)
    have hlen : (as.map V.ref).length = rs.length := by rw [List.length_map]; exact Pd.len hrs
    refine ⟨_, rfl, _, rfl, _, rfl, raw, _, rfl, .inl (SqL.of (e712 _ _ hraw7)), ?_⟩
    refine ⟨s, st, ns, a5, b5, c5, d5, (as.map V.ref).length, rfl, e012.sqL ap hs, e712 _ _ h7, ap, hns, hd51, by omega, by omega, by omega, fun z ls H13 hfz okz hms => ?_⟩
    exact ⟨z, (as.map V.ref).length, ls, rfl, hfz, hms, by omega, fun H14 _ => hq H14⟩
end
end K72

-- K72Head
set_option Elab.async false
set_option linter.all false
set_option maxRecDepth 100000
set_option maxHeartbeats 0
/-! The head is run once; what it tells. -/
namespace K72
open PySem PySem.Spec PyProof.Rows L2
abbrev Al3 : Type := He.AlD × (Bool × He.FnW)
def obsX (K : PySem.W.Frag) : Al3 := (He.obsD fa fn K, xa.all fun p => p K, hfW K)
def valX : Al3 := (He.valD fn, true, hfV)
/-- what the names reach in four steps, and the code of the def in the staticmethod -/
def asX (g : Addr → Option Obj) (l : List Addr) : List Addr := l ++ cStatics :: (match (He.frG g l).lookup (hfA (He.frG g l)) with
  | some ⟨_, _, .func fd, _⟩ => He.refV fd.code
  | _ => [])
def obsXG (g : Addr → Option Obj) : Al3 := obsX (He.frG g (asX g (He.asD g 4)))
def hookX : PySem.W.Hook where
  α := Al3
  obs := fun s => obsXG s.heap.get?
  val := fun _ => valX
  says := fun _ h => ∃ K : PySem.W.Frag, K.In h ∧ obsX K = valX
  of := fun _ _ e => ⟨_, He.frG_in, e⟩
  keeps := fun _ _ _ ⟨K, hK, c⟩ k => ⟨K, PySem.W.Frag.In.keeps hK k, c⟩
abbrev RL : PySem.W.OpenRow := PySem.W.OpenLaw.row rowL
def obX (s : PySem.W.SharedT) : Al3 := obsXG (HandSHeadRun.getT s)
theorem obX_eq (s : PySem.W.SharedT) : obX s = hookX.obs s.abs := by
  have e : HandSHeadRun.getT s = s.abs.heap.get? := funext (HandSHeadRun.getT_eq s)
  unfold obX
  rw [e]
  rfl
def looseX : List Str := ((PySem.Challenge.pw_copyvotes_k72_whole_votes_of_the_best.main.scope.names.filter fun p => p.2 == .local).map (·.1)).filter fun x => x != ("law" : Str)
theorem runX (w : World) : HandSHeadRun.RunEq RL (PySem.W.view RL.prog [74]) hookX obX 6000 looseX w := by
  intro os
  kernel_rfl
theorem ft_of {K : PySem.W.Frag} {h : Heap} {mg : Str → Option Value} (X : K.In h) (G : h.Ns mainGlobals mg) (c : obsX K = valX) : Ft K mg where
  ex := ⟨h, X, G⟩
  says := congrArg (fun z : Al3 => z.1) c
  more := congrArg (fun z : Al3 => z.2.1) c
  half := congrArg (fun z : Al3 => z.2.2) c
end K72

-- K72End
set_option Elab.async false
set_option linter.all false
set_option maxRecDepth 100000
set_option maxHeartbeats 0
/-! The end. -/
namespace K72
open PySem PySem.Spec PyProof.Rows L2
theorem facts {P : Program} {w : World} {K : PySem.W.Frag} {h : Heap} {mg : Str → Option Value} {f : Addr} (X : K.In h) (G : h.Ns mainGlobals mg) (hfa : mg ("law" : Str) = some (.ref f)) (c : obsX K = valX) :
    ∃ fd : FuncData, (∀ (s : Shared) (v : Value), BindsTo s fd ⟨[v], []⟩ [("_law_script", v)]) ∧ ∀ base : Heap, K.In base → base.Ns mainGlobals mg → FnOk P w K mg base CX0 18 f fd ["_law_script"] (spLaw K) := by
  have T := ft_of X G c
  obtain ⟨fd, F⟩ := T.f_law
  have e := hfa.symm.trans T.g_law
  cases e
  have b := FunD.bindsA (ps := ["_law_script"]) F fun _ _ _ _ _ _ us hl => match us, hl with | [_], _ => rfl
  refine ⟨fd, fun s v => b s [v] rfl, fun base _ _ => F.ok sc_law (fun vs H Q E h => ?_) fun cdv A outer s H vs Q E hr h => ?_⟩
  · obtain ⟨_, _, rfl, _⟩ := h; rfl
  · obtain ⟨t, h1, h2⟩ := b_law (base := base) T cdv A outer s H vs Q E hr h
    exact ⟨t, h1.nox, h2⟩
end K72
open PySem PySem.W PySem.Calls PyProof.Rows
theorem PySem.Challenge.cw_copyvotes_k72_whole_votes_of_the_best_holds : PySem.Challenge.rw_copyvotes_k72_whole_votes_of_the_best.Holds := by
  w_on; o_law
  refine HandSHeadRun.head_any (r := OpenLaw.row PySem.Challenge.rw_copyvotes_k72_whole_votes_of_the_best) (q := view (OpenLaw.row PySem.Challenge.rw_copyvotes_k72_whole_votes_of_the_best).prog [74]) (H := K72.hookX) (ob := K72.obX) (M := 6000) (loose := K72.looseX) (d := HandSHeadRun.topDef (OpenLaw.row PySem.Challenge.rw_copyvotes_k72_whole_votes_of_the_best).prog 74) (kwd := []) K72.obX_eq
    (by kernel_rfl) (fun s => by kernel_rfl) K72.runX (by kernel_rfl) (by kernel_rfl) (by kernel_rfl) (by rfl) (by first | assumption | decide +kernel) (by decide +kernel) ⟨rfl, rfl, rfl, rfl, rfl, by decide +kernel⟩ ?hw ?hc
  case hw => w_witness2
  case hc =>
    refine L2.walk_ofE (l := PySem.Challenge.rw_copyvotes_k72_whole_votes_of_the_best) (n := 63) (k := 18) (x := "_law_script") (CX := L2.CX0) rfl (by decide) (by kernel_rfl) ⟨rfl, by decide, by decide⟩ ?F (fun _ _ _ _ z => z)
    intro w mg fa h Y G hmg0
    obtain ⟨K, KX, c⟩ := Y
    have hmg : mg ("law" : PySem.Str) = some (.ref fa) := by
      have e : (HandSHeadRun.topDef (OpenLaw.row PySem.Challenge.rw_copyvotes_k72_whole_votes_of_the_best).prog 74).name = ("law" : PySem.Str) := by kernel_rfl
      rw [← e]
      exact hmg0
    obtain ⟨fd, hb, hF⟩ := K72.facts (P := (PySem.Challenge.rw_copyvotes_k72_whole_votes_of_the_best).prog) (w := w) KX G hmg c
    exact ⟨K, fd, K72.spLaw K, KX, hb, fun H a ns hl _ hS => ⟨a, ns, rfl, hS, by omega, fun _ => rfl⟩, hF⟩
