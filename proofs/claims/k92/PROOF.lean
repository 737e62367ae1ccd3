import PyProof.Rows.All
import Wide.All
import OpenK.AllK
import Wide.FinOn
import HandS.ForMost
import HandS.Evl
import HandS.Wide
import HandS.WideBits
import HandS.TupAny
import HandS.TupMul
import HandS.Gcd
import HandS.Style
import HandS.Defaults
import HandS.IsInst
import HandS.NoneIn
import HandS.ClsMeth
import HandS.SlotsOwn
import HandS.OwnEq
import HandS.FStr
import KE.KOpsOwn
import KE.KMathG
import Flt.RightSqrt
import KE.KxField
import HandS.HeadHook1
import PySem.Challenge.RW_goodturns_k92_whole_keepers_move_sails
import HandS.Head0
import HandS.Head1
import HandS.Head2
import HandS.HeadEnd
import HandS.HeadHook2
import HandS.HeadNt
import KE.KStateDown
import Lean
import HandS.Head3
set_option Elab.async false
set_option linter.all false
set_option maxRecDepth 100000
set_option maxHeartbeats 0
namespace Gw
section
open PySem PySem.Spec PyProof.Rows L2
open PySem.W (Frag)
def top (i : Nat) : Stmt := PySem.Challenge.pw_goodturns_k92_whole_keepers_move_sails.main.body.getD i (.Pass ⟨0, 0, 0, 0⟩)
abbrev s_Tabled_initd : Stmt := inClass (top 29) 0
abbrev s_turns_table : Stmt := top 50
abbrev s_sign_of : Stmt := top 25
abbrev s_Fracd_initd : Stmt := inClass (top 26) 0
abbrev s_Tabled_muld : Stmt := inClass (top 29) 2
abbrev s_Tabled_negd : Stmt := inClass (top 29) 3
abbrev s_Table_det : Stmt := inClass (top 29) 5
abbrev s_Table_trace : Stmt := inClass (top 29) 6
abbrev s_Table_adjugate : Stmt := inClass (top 29) 7
abbrev s_Table_inverse : Stmt := inClass (top 29) 9
abbrev s_Table_unit : Stmt := inClass (top 29) 14
abbrev s_Table_raised : Stmt := inClass (top 29) 10
abbrev s_turn_of_loop : Stmt := top 31
abbrev s_loop_from : Stmt := top 32
abbrev s_turn_in : Stmt := top 33
abbrev s_unrolled : Stmt := top 34
abbrev s__spread : Stmt := top 35
abbrev s_least_loop : Stmt := top 36
abbrev s_one_form : Stmt := top 37
abbrev s_kind_of : Stmt := top 49
abbrev s_Rowd_initd : Stmt := inClass (top 51) 0
abbrev s_Row_turn : Stmt := inClass (top 51) 4
abbrev s_Row_turns : Stmt := inClass (top 51) 6
abbrev s_Row_table : Stmt := inClass (top 51) 9
abbrev s_Row_convergent : Stmt := inClass (top 51) 10
abbrev s_Row_floor : Stmt := inClass (top 51) 14
abbrev s_unfit_disc : Stmt := top 53
abbrev s_floor_by_side : Stmt := top 54
abbrev s_moved_numbers : Stmt := top 55
abbrev s_Rootd_initd : Stmt := inClass (top 56) 0
abbrev s_Root_moved : Stmt := inClass (top 56) 5
abbrev s__walk : Stmt := top 59
abbrev s__settled : Stmt := top 60
abbrev s_row_of : Stmt := top 61
abbrev s_keeper : Stmt := top 63
abbrev s_root_of : Stmt := top 72
abbrev s_along : Stmt := top 66
abbrev s_check_sail : Stmt := top 67
abbrev s_first_edge : Stmt := top 68
abbrev s_next_edge : Stmt := top 69
abbrev s_sail : Stmt := top 70
abbrev s__law_pool : Stmt := top 74
abbrev s__law_whole : Stmt := top 76
abbrev s__law_draw : Stmt := top 75
abbrev s__law_turn : Stmt := top 77
abbrev s__law_looped : Stmt := top 78
abbrev s__law_short : Stmt := top 79
abbrev s__law_product : Stmt := top 80
abbrev s__law_times : Stmt := top 81
abbrev s__law_back : Stmt := top 82
abbrev s__law_keeper : Stmt := top 83
abbrev s__law_numbers : Stmt := top 84
abbrev s__law_points : Stmt := top 85
abbrev s__law_moved : Stmt := top 88
abbrev s__law_are_points : Stmt := top 86
abbrev s__law_corner : Stmt := top 87
abbrev s__law_carries : Stmt := top 89
abbrev s__law_follow : Stmt := top 90
abbrev s_law : Stmt := top 91
def fs0 : List (Frag → Bool) := [fun K => He.Fa.ok K (.free "len"),
  fun K => He.Fa.ok K (.free "range"),
  fun K => He.Fa.ok K (.free "int"),
  fun K => He.Fa.ok K (.free "bool"),
  fun K => He.Fa.ok K (.free "list"),
  fun K => He.Fa.ok K (.free "tuple"),
  fun K => He.Fa.ok K (.free "abs"),
  fun K => He.Fa.ok K (.free "max"),
  fun K => He.Fa.ok K (.free "divmod"),
  fun K => He.Fa.ok K (.free "isinstance"),
  fun K => He.eqO (PySem.W.nsIn K mainGlobals "gcd") (some (some (.builtin "math.gcd"))),
  fun K => He.eqO (PySem.W.nsIn K mainGlobals "isqrt") (some (some (.builtin "math.isqrt"))),
  fun K => He.Fa.ok K (.int "MOST_EXPONENT_table" 1000),
  fun K => He.Fa.ok K (.int "MOST_TURNS" 5000),
  fun K => He.Fa.ok K (.int "LIMIT" 1000)]
def fs1 : List (Frag → Bool) := [fun K => He.Fa.ok K (.int "MOST_POINTS" 500),
  fun K => He.Fa.ok K (.glo "Table"),
  fun K => He.Fa.ok K (.cls "Table"),
  fun K => He.Fa.ok K (.glo "Frac"),
  fun K => He.Fa.ok K (.cls "Frac"),
  fun K => He.Fa.ok K (.glo "Row"),
  fun K => He.Fa.ok K (.cls "Row"),
  fun K => He.Fa.ok K (.glo "Root"),
  fun K => He.Fa.ok K (.cls "Root"),
  fun K => He.Fa.ok K (.noat "Table" "a"),
  fun K => He.Fa.ok K (.noat "Table" "b"),
  fun K => He.Fa.ok K (.noat "Table" "c"),
  fun K => He.Fa.ok K (.noat "Table" "d"),
  fun K => He.Fa.ok K (.noat "Frac" "top"),
  fun K => He.Fa.ok K (.noat "Frac" "bottom")]
def fs2 : List (Frag → Bool) := [fun K => He.Fa.ok K (.noat "Row" "head"),
  fun K => He.Fa.ok K (.noat "Row" "loop"),
  fun K => He.Fa.ok K (.noat "Row" "kind"),
  fun K => He.Fa.ok K (.noat "Root" "a"),
  fun K => He.Fa.ok K (.noat "Root" "b"),
  fun K => He.Fa.ok K (.noat "Root" "c"),
  fun K => He.Fa.ok K (.noat "Root" "disc"),
  fun K => He.eqO (PySem.W.findIn K (.ref (He.ga K "Table")) "__class__") (some (some (.builtin "object.__class__"))),
  fun K => He.eqO (PySem.W.specialIn K (.builtin "object.__class__") "__get__") (some (some (.builtin "getset_descriptor.__get__"))),
  fun K => decide (PySem.W.takesIn K (.builtin "object.__class__") = some true),
  fun K => decide (PySem.W.mroIn K (He.ga K "Table") (.type "object") = some true),
  fun K => decide (PySem.W.kitOne K (.ref (He.ga K "Table")) (.ref (He.ga K "Table")) = some true),
  fun K => He.eqO (PySem.W.findIn K (.ref (He.ga K "Frac")) "__class__") (some (some (.builtin "object.__class__"))),
  fun K => decide (PySem.W.mroIn K (He.ga K "Frac") (.type "object") = some true),
  fun K => decide (PySem.W.kitOne K (.ref (He.ga K "Frac")) (.ref (He.ga K "Frac")) = some true)]
def fs3 : List (Frag → Bool) := [fun K => He.Fa.ok K (.mkr "Table"),
  fun K => He.Fa.ok K (.glo "turns_table"),
  fun K => He.Fa.ok K (.keep "turns_table"),
  fun K => He.Fa.ok K (.glo "sign_of"),
  fun K => He.Fa.ok K (.keep "sign_of"),
  fun K => He.Fa.ok K (.mkr "Frac"),
  fun K => PySem.W.selfFirst K (He.ga K "Table"),
  fun K => He.eqO (PySem.W.findIn K (.ref (He.ga K "Table")) (PySem.dunder (Operator.Mult).info.2)) (some (some (.ref (He.ma K (He.ga K "Table") "__mul__")))),
  fun K => PySem.W.isFn K (.ref (He.ma K (He.ga K "Table") "__mul__")),
  fun K => He.eqO (PySem.W.findIn K (.ref (He.ga K "Table")) "__neg__") (some (some (.ref (He.ma K (He.ga K "Table") "__neg__")))),
  fun K => PySem.W.isFn K (.ref (He.ma K (He.ga K "Table") "__neg__")),
  fun K => He.Fa.ok K (.meth "Table" "det"),
  fun K => He.Fa.ok K (.meth "Table" "trace"),
  fun K => He.Fa.ok K (.meth "Table" "adjugate"),
  fun K => He.Fa.ok K (.meth "Table" "inverse")]
def fs4 : List (Frag → Bool) := [fun K => PySem.W.readsIn K (He.ga K "Table") (.type "type"),
  fun K => He.eqO (PySem.W.specialIn K (.ref (He.ga K "Table")) "__getattribute__") (some (some (.builtin "type.__getattribute__"))),
  fun K => He5.wrapB K (He.ga K "Table") "staticmethod" "staticmethod.__get__" "unit",
  fun K => PySem.W.keepIn K (.ref (He5.wf K (He.ga K "Table") "staticmethod" "unit")),
  fun K => He.Fa.ok K (.meth "Table" "raised"),
  fun K => He.Fa.ok K (.glo "turn_of_loop"),
  fun K => He.Fa.ok K (.keep "turn_of_loop"),
  fun K => He.Fa.ok K (.glo "loop_from"),
  fun K => He.Fa.ok K (.keep "loop_from"),
  fun K => He.Fa.ok K (.glo "turn_in"),
  fun K => He.Fa.ok K (.keep "turn_in"),
  fun K => He.Fa.ok K (.glo "unrolled"),
  fun K => He.Fa.ok K (.keep "unrolled"),
  fun K => He.Fa.ok K (.glo "_spread"),
  fun K => He.Fa.ok K (.keep "_spread")]
def fs5 : List (Frag → Bool) := [fun K => He.Fa.ok K (.glo "least_loop"),
  fun K => He.Fa.ok K (.keep "least_loop"),
  fun K => He.Fa.ok K (.glo "one_form"),
  fun K => He.Fa.ok K (.keep "one_form"),
  fun K => He.Fa.ok K (.glo "kind_of"),
  fun K => He.Fa.ok K (.keep "kind_of"),
  fun K => He.Fa.ok K (.mkr "Row"),
  fun K => He.Fa.ok K (.meth "Row" "turn"),
  fun K => He.Fa.ok K (.meth "Row" "turns"),
  fun K => He.Fa.ok K (.meth "Row" "table"),
  fun K => He.Fa.ok K (.meth "Row" "convergent"),
  fun K => He.Fa.ok K (.meth "Row" "floor"),
  fun K => He.Fa.ok K (.glo "unfit_disc"),
  fun K => He.Fa.ok K (.keep "unfit_disc"),
  fun K => He.Fa.ok K (.glo "floor_by_side")]
def fs6 : List (Frag → Bool) := [fun K => He.Fa.ok K (.keep "floor_by_side"),
  fun K => He.Fa.ok K (.glo "moved_numbers"),
  fun K => He.Fa.ok K (.keep "moved_numbers"),
  fun K => He.Fa.ok K (.mkr "Root"),
  fun K => He.Fa.ok K (.meth "Root" "moved"),
  fun K => He.Fa.ok K (.glo "_walk"),
  fun K => He.Fa.ok K (.keep "_walk"),
  fun K => He.Fa.ok K (.glo "_settled"),
  fun K => He.Fa.ok K (.keep "_settled"),
  fun K => He.Fa.ok K (.glo "row_of"),
  fun K => He.Fa.ok K (.keep "row_of"),
  fun K => He.Fa.ok K (.glo "keeper"),
  fun K => He.Fa.ok K (.keep "keeper"),
  fun K => He.Fa.ok K (.glo "root_of"),
  fun K => He.Fa.ok K (.keep "root_of")]
def fs7 : List (Frag → Bool) := [fun K => He.Fa.ok K (.glo "along"),
  fun K => He.Fa.ok K (.keep "along"),
  fun K => He.Fa.ok K (.glo "check_sail"),
  fun K => He.Fa.ok K (.keep "check_sail"),
  fun K => He.Fa.ok K (.glo "first_edge"),
  fun K => He.Fa.ok K (.keep "first_edge"),
  fun K => He.Fa.ok K (.glo "next_edge"),
  fun K => He.Fa.ok K (.keep "next_edge"),
  fun K => He.Fa.ok K (.glo "sail"),
  fun K => He.Fa.ok K (.keep "sail"),
  fun K => He.Fa.ok K (.glo "_law_pool"),
  fun K => He.Fa.ok K (.keep "_law_pool"),
  fun K => He.Fa.ok K (.glo "_law_whole"),
  fun K => He.Fa.ok K (.keep "_law_whole"),
  fun K => He.Fa.ok K (.glo "_law_draw")]
def fs8 : List (Frag → Bool) := [fun K => He.Fa.ok K (.keep "_law_draw"),
  fun K => He.Fa.ok K (.glo "_law_turn"),
  fun K => He.Fa.ok K (.keep "_law_turn"),
  fun K => He.Fa.ok K (.glo "_law_looped"),
  fun K => He.Fa.ok K (.keep "_law_looped"),
  fun K => He.Fa.ok K (.glo "_law_short"),
  fun K => He.Fa.ok K (.keep "_law_short"),
  fun K => He.Fa.ok K (.glo "_law_product"),
  fun K => He.Fa.ok K (.keep "_law_product"),
  fun K => He.Fa.ok K (.glo "_law_times"),
  fun K => He.Fa.ok K (.keep "_law_times"),
  fun K => He.Fa.ok K (.glo "_law_back"),
  fun K => He.Fa.ok K (.keep "_law_back"),
  fun K => He.Fa.ok K (.glo "_law_keeper"),
  fun K => He.Fa.ok K (.keep "_law_keeper")]
def fs9 : List (Frag → Bool) := [fun K => He.Fa.ok K (.glo "_law_numbers"),
  fun K => He.Fa.ok K (.keep "_law_numbers"),
  fun K => He.Fa.ok K (.glo "_law_points"),
  fun K => He.Fa.ok K (.keep "_law_points"),
  fun K => He.Fa.ok K (.glo "_law_moved"),
  fun K => He.Fa.ok K (.keep "_law_moved"),
  fun K => He.Fa.ok K (.glo "_law_are_points"),
  fun K => He.Fa.ok K (.keep "_law_are_points"),
  fun K => He.Fa.ok K (.glo "_law_corner"),
  fun K => He.Fa.ok K (.keep "_law_corner"),
  fun K => He.Fa.ok K (.glo "_law_carries"),
  fun K => He.Fa.ok K (.keep "_law_carries"),
  fun K => He.Fa.ok K (.glo "_law_follow"),
  fun K => He.Fa.ok K (.keep "_law_follow"),
  fun K => He.Fa.ok K (.glo "law")]
def fs : List (Frag → Bool) := fs0 ++ fs1 ++ fs2 ++ fs3 ++ fs4 ++ fs5 ++ fs6 ++ fs7 ++ fs8 ++ fs9
def fn0 : List He5.DefA := [⟨fun K => He.ma K (He.ga K "Table") "__init__", "__init__", "Table.__init__", defArgs s_Tabled_initd, defBody s_Tabled_initd, defScope s_Tabled_initd, [], []⟩,
  ⟨fun K => He.ga K "turns_table", "turns_table", "turns_table", defArgs s_turns_table, defBody s_turns_table, defScope s_turns_table, [], []⟩,
  ⟨fun K => He.ga K "sign_of", "sign_of", "sign_of", defArgs s_sign_of, defBody s_sign_of, defScope s_sign_of, [], []⟩,
  ⟨fun K => He.ma K (He.ga K "Frac") "__init__", "__init__", "Frac.__init__", defArgs s_Fracd_initd, defBody s_Fracd_initd, defScope s_Fracd_initd, [.int 1], []⟩,
  ⟨fun K => He.ma K (He.ga K "Table") "__mul__", "__mul__", "Table.__mul__", defArgs s_Tabled_muld, defBody s_Tabled_muld, defScope s_Tabled_muld, [], []⟩,
  ⟨fun K => He.ma K (He.ga K "Table") "__neg__", "__neg__", "Table.__neg__", defArgs s_Tabled_negd, defBody s_Tabled_negd, defScope s_Tabled_negd, [], []⟩,
  ⟨fun K => He.ma K (He.ga K "Table") "det", "det", "Table.det", defArgs s_Table_det, defBody s_Table_det, defScope s_Table_det, [], []⟩,
  ⟨fun K => He.ma K (He.ga K "Table") "trace", "trace", "Table.trace", defArgs s_Table_trace, defBody s_Table_trace, defScope s_Table_trace, [], []⟩,
  ⟨fun K => He.ma K (He.ga K "Table") "adjugate", "adjugate", "Table.adjugate", defArgs s_Table_adjugate, defBody s_Table_adjugate, defScope s_Table_adjugate, [], []⟩,
  ⟨fun K => He.ma K (He.ga K "Table") "inverse", "inverse", "Table.inverse", defArgs s_Table_inverse, defBody s_Table_inverse, defScope s_Table_inverse, [], []⟩,
  ⟨fun K => He5.wf K (He.ga K "Table") "staticmethod" "unit", "unit", "Table.unit", defArgs s_Table_unit, defBody s_Table_unit, defScope s_Table_unit, [], []⟩,
  ⟨fun K => He.ma K (He.ga K "Table") "raised", "raised", "Table.raised", defArgs s_Table_raised, defBody s_Table_raised, defScope s_Table_raised, [], []⟩,
  ⟨fun K => He.ga K "turn_of_loop", "turn_of_loop", "turn_of_loop", defArgs s_turn_of_loop, defBody s_turn_of_loop, defScope s_turn_of_loop, [], []⟩,
  ⟨fun K => He.ga K "loop_from", "loop_from", "loop_from", defArgs s_loop_from, defBody s_loop_from, defScope s_loop_from, [], []⟩,
  ⟨fun K => He.ga K "turn_in", "turn_in", "turn_in", defArgs s_turn_in, defBody s_turn_in, defScope s_turn_in, [], []⟩]
def fn1 : List He5.DefA := [⟨fun K => He.ga K "unrolled", "unrolled", "unrolled", defArgs s_unrolled, defBody s_unrolled, defScope s_unrolled, [], []⟩,
  ⟨fun K => He.ga K "_spread", "_spread", "_spread", defArgs s__spread, defBody s__spread, defScope s__spread, [], []⟩,
  ⟨fun K => He.ga K "least_loop", "least_loop", "least_loop", defArgs s_least_loop, defBody s_least_loop, defScope s_least_loop, [], []⟩,
  ⟨fun K => He.ga K "one_form", "one_form", "one_form", defArgs s_one_form, defBody s_one_form, defScope s_one_form, [], []⟩,
  ⟨fun K => He.ga K "kind_of", "kind_of", "kind_of", defArgs s_kind_of, defBody s_kind_of, defScope s_kind_of, [], []⟩,
  ⟨fun K => He.ma K (He.ga K "Row") "__init__", "__init__", "Row.__init__", defArgs s_Rowd_initd, defBody s_Rowd_initd, defScope s_Rowd_initd, [.adr (He.dflAt ("Row", some "__init__") 0)], []⟩,
  ⟨fun K => He.ma K (He.ga K "Row") "turn", "turn", "Row.turn", defArgs s_Row_turn, defBody s_Row_turn, defScope s_Row_turn, [], []⟩,
  ⟨fun K => He.ma K (He.ga K "Row") "turns", "turns", "Row.turns", defArgs s_Row_turns, defBody s_Row_turns, defScope s_Row_turns, [], []⟩,
  ⟨fun K => He.ma K (He.ga K "Row") "table", "table", "Row.table", defArgs s_Row_table, defBody s_Row_table, defScope s_Row_table, [], []⟩,
  ⟨fun K => He.ma K (He.ga K "Row") "convergent", "convergent", "Row.convergent", defArgs s_Row_convergent, defBody s_Row_convergent, defScope s_Row_convergent, [], []⟩,
  ⟨fun K => He.ma K (He.ga K "Row") "floor", "floor", "Row.floor", defArgs s_Row_floor, defBody s_Row_floor, defScope s_Row_floor, [], []⟩,
  ⟨fun K => He.ga K "unfit_disc", "unfit_disc", "unfit_disc", defArgs s_unfit_disc, defBody s_unfit_disc, defScope s_unfit_disc, [], []⟩,
  ⟨fun K => He.ga K "floor_by_side", "floor_by_side", "floor_by_side", defArgs s_floor_by_side, defBody s_floor_by_side, defScope s_floor_by_side, [], []⟩,
  ⟨fun K => He.ga K "moved_numbers", "moved_numbers", "moved_numbers", defArgs s_moved_numbers, defBody s_moved_numbers, defScope s_moved_numbers, [], []⟩,
  ⟨fun K => He.ma K (He.ga K "Root") "__init__", "__init__", "Root.__init__", defArgs s_Rootd_initd, defBody s_Rootd_initd, defScope s_Rootd_initd, [], []⟩]
def fn2 : List He5.DefA := [⟨fun K => He.ma K (He.ga K "Root") "moved", "moved", "Root.moved", defArgs s_Root_moved, defBody s_Root_moved, defScope s_Root_moved, [], []⟩,
  ⟨fun K => He.ga K "_walk", "_walk", "_walk", defArgs s__walk, defBody s__walk, defScope s__walk, [], []⟩,
  ⟨fun K => He.ga K "_settled", "_settled", "_settled", defArgs s__settled, defBody s__settled, defScope s__settled, [], []⟩,
  ⟨fun K => He.ga K "row_of", "row_of", "row_of", defArgs s_row_of, defBody s_row_of, defScope s_row_of, [], []⟩,
  ⟨fun K => He.ga K "keeper", "keeper", "keeper", defArgs s_keeper, defBody s_keeper, defScope s_keeper, [], []⟩,
  ⟨fun K => He.ga K "root_of", "root_of", "root_of", defArgs s_root_of, defBody s_root_of, defScope s_root_of, [], []⟩,
  ⟨fun K => He.ga K "along", "along", "along", defArgs s_along, defBody s_along, defScope s_along, [], []⟩,
  ⟨fun K => He.ga K "check_sail", "check_sail", "check_sail", defArgs s_check_sail, defBody s_check_sail, defScope s_check_sail, [], []⟩,
  ⟨fun K => He.ga K "first_edge", "first_edge", "first_edge", defArgs s_first_edge, defBody s_first_edge, defScope s_first_edge, [], []⟩,
  ⟨fun K => He.ga K "next_edge", "next_edge", "next_edge", defArgs s_next_edge, defBody s_next_edge, defScope s_next_edge, [], []⟩,
  ⟨fun K => He.ga K "sail", "sail", "sail", defArgs s_sail, defBody s_sail, defScope s_sail, [], []⟩,
  ⟨fun K => He.ga K "_law_pool", "_law_pool", "_law_pool", defArgs s__law_pool, defBody s__law_pool, defScope s__law_pool, [], []⟩,
  ⟨fun K => He.ga K "_law_whole", "_law_whole", "_law_whole", defArgs s__law_whole, defBody s__law_whole, defScope s__law_whole, [], []⟩,
  ⟨fun K => He.ga K "_law_draw", "_law_draw", "_law_draw", defArgs s__law_draw, defBody s__law_draw, defScope s__law_draw, [], []⟩,
  ⟨fun K => He.ga K "_law_turn", "_law_turn", "_law_turn", defArgs s__law_turn, defBody s__law_turn, defScope s__law_turn, [], []⟩]
def fn3 : List He5.DefA := [⟨fun K => He.ga K "_law_looped", "_law_looped", "_law_looped", defArgs s__law_looped, defBody s__law_looped, defScope s__law_looped, [], []⟩,
  ⟨fun K => He.ga K "_law_short", "_law_short", "_law_short", defArgs s__law_short, defBody s__law_short, defScope s__law_short, [], []⟩,
  ⟨fun K => He.ga K "_law_product", "_law_product", "_law_product", defArgs s__law_product, defBody s__law_product, defScope s__law_product, [], []⟩,
  ⟨fun K => He.ga K "_law_times", "_law_times", "_law_times", defArgs s__law_times, defBody s__law_times, defScope s__law_times, [], []⟩,
  ⟨fun K => He.ga K "_law_back", "_law_back", "_law_back", defArgs s__law_back, defBody s__law_back, defScope s__law_back, [], []⟩,
  ⟨fun K => He.ga K "_law_keeper", "_law_keeper", "_law_keeper", defArgs s__law_keeper, defBody s__law_keeper, defScope s__law_keeper, [], []⟩,
  ⟨fun K => He.ga K "_law_numbers", "_law_numbers", "_law_numbers", defArgs s__law_numbers, defBody s__law_numbers, defScope s__law_numbers, [], []⟩,
  ⟨fun K => He.ga K "_law_points", "_law_points", "_law_points", defArgs s__law_points, defBody s__law_points, defScope s__law_points, [], []⟩,
  ⟨fun K => He.ga K "_law_moved", "_law_moved", "_law_moved", defArgs s__law_moved, defBody s__law_moved, defScope s__law_moved, [], []⟩,
  ⟨fun K => He.ga K "_law_are_points", "_law_are_points", "_law_are_points", defArgs s__law_are_points, defBody s__law_are_points, defScope s__law_are_points, [], []⟩,
  ⟨fun K => He.ga K "_law_corner", "_law_corner", "_law_corner", defArgs s__law_corner, defBody s__law_corner, defScope s__law_corner, [], []⟩,
  ⟨fun K => He.ga K "_law_carries", "_law_carries", "_law_carries", defArgs s__law_carries, defBody s__law_carries, defScope s__law_carries, [], []⟩,
  ⟨fun K => He.ga K "_law_follow", "_law_follow", "_law_follow", defArgs s__law_follow, defBody s__law_follow, defScope s__law_follow, [], []⟩,
  ⟨fun K => He.ga K "law", "law", "law", defArgs s_law, defBody s_law, defScope s_law, [], []⟩]
def fn : List He5.DefA := fn0 ++ fn1 ++ fn2 ++ fn3
def obsX (K : Frag) : He.AlD := ((fs.all fun p => p K) && fn.all fun d => d.ok K, fn.map fun d => He5.fnA K (d.at_ K))
def SaysX (K : Frag) : Prop := obsX K = He5.valA fn
def gn0 : List Str := [("turns_table" : Str), ("sign_of" : Str), ("turn_of_loop" : Str), ("loop_from" : Str), ("turn_in" : Str), ("unrolled" : Str), ("_spread" : Str), ("least_loop" : Str), ("one_form" : Str), ("kind_of" : Str), ("unfit_disc" : Str), ("floor_by_side" : Str), ("moved_numbers" : Str), ("_walk" : Str), ("_settled" : Str)]
def gn1 : List Str := [("row_of" : Str), ("keeper" : Str), ("root_of" : Str), ("along" : Str), ("check_sail" : Str), ("first_edge" : Str), ("next_edge" : Str), ("sail" : Str), ("_law_pool" : Str), ("_law_whole" : Str), ("_law_draw" : Str), ("_law_turn" : Str), ("_law_looped" : Str), ("_law_short" : Str), ("_law_product" : Str)]
def gn2 : List Str := [("_law_times" : Str), ("_law_back" : Str), ("_law_keeper" : Str), ("_law_numbers" : Str), ("_law_points" : Str), ("_law_moved" : Str), ("_law_are_points" : Str), ("_law_corner" : Str), ("_law_carries" : Str), ("_law_follow" : Str), ("law" : Str), ("Table" : Str), ("Frac" : Str), ("Row" : Str), ("Root" : Str)]
def gn : List Str := gn0 ++ gn1 ++ gn2
/-- numbers made plain, then the rest -/
def frA {α : Type} : List Nat → (List Nat → α) → α
  | [], k => k []
  | a :: as, k => HandSHeadRun.frNat a fun a => frA as fun as => k (a :: as)
theorem frA_eq {α : Type} : ∀ (as : List Nat) (k : List Nat → α), frA as k = k as
  | [], k => rfl
  | a :: as, k => by
    show HandSHeadRun.frNat a (fun a => frA as fun as => k (a :: as)) = _
    rw [HandSHeadRun.frNat_eq, frA_eq as]
/-- what the objects name -/
def nxA (g : Addr → Option Obj) (as : List Addr) : List Addr := as.flatMap fun a => match g a with
  | some o => He.refsD o
  | none => []
def addrs {α : Type} (g : Addr → Option Obj) (k : List Addr → α) : α :=
  frA (gn.map (He.ga (He.frG g [mainGlobals]))) fun a1 => frA (nxA g a1) fun a2 => frA (nxA g a2) fun a3 => frA (nxA g a3) fun a4 => frA (nxA g a4) fun a5 => k (mainGlobals :: cStatics :: (a1 ++ a2 ++ a3 ++ a4 ++ a5))
def addrL (g : Addr → Option Obj) : List Addr := addrs g fun as => as
theorem addrs_eq {α : Type} (g : Addr → Option Obj) (k : List Addr → α) : addrs g k = k (addrL g) := by
  unfold addrL addrs
  simp only [frA_eq]
def obsXG (g : Addr → Option Obj) : He.AlD := addrs g fun as => obsX (He.frG g as)
def hookX : PySem.W.Hook where
  α := He.AlD
  obs := fun s => obsXG s.heap.get?
  val := fun _ => He5.valA fn
  says := fun _ h => ∃ K : Frag, K.In h ∧ SaysX K
  of := fun _ s e => ⟨He.frG s.heap.get? (addrL s.heap.get?), He.frG_in, by rw [obsXG, addrs_eq] at e; exact e⟩
  keeps := fun _ _ _ ⟨K, hK, c⟩ k => ⟨K, PySem.W.Frag.In.keeps hK k, c⟩
theorem SaysX.fact {K : Frag} (c : SaysX K) (i : Nat) {f : Frag → Bool} (h : fs[i]? = some f) : f K = true := by
  have c1 := (He.ba (show ((fs.all fun p => p K) && fn.all fun d => d.ok K) = true from congrArg (fun z : He.AlD => z.1) c)).1
  exact List.all_eq_true.mp c1 f (List.mem_of_getElem? h)
theorem SaysX.def_ {K : Frag} (c : SaysX K) (i : Nat) {d : He5.DefA} (h : fn[i]? = some d) : ∃ fd, L2.FunD K d.name d.qual d.params d.body d.scope (d.dvs K) (d.kws K) (d.at_ K) fd := by
  have c2 := (He.ba (show ((fs.all fun p => p K) && fn.all fun d => d.ok K) = true from congrArg (fun z : He.AlD => z.1) c)).2
  have e : fn.map (fun d => He5.fnA K (d.at_ K)) = fn.map He5.DefA.val := congrArg (fun z : He.AlD => z.2) c
  have e2 : (fn.map fun d => He5.fnA K (d.at_ K))[i]? = (fn.map He5.DefA.val)[i]? := by rw [e]
  rw [List.getElem?_map, List.getElem?_map, h] at e2
  exact He5.DefA.funD (Option.some.inj e2) (List.all_eq_true.mp c2 d (List.mem_of_getElem? h))

end
section
open PySem PySem.W PySem.Calls PyProof.Rows
abbrev R : OpenRow := OpenLaw.row PySem.Challenge.rw_goodturns_k92_whole_keepers_move_sails
abbrev qv : Program := view R.prog [0, 91]
def names0 : List PySem.Str := [("_wall" : PySem.Str), ("TurnError" : PySem.Str), ("ZeroBottom" : PySem.Str), ("OutOfBounds" : PySem.Str), ("BadNumber" : PySem.Str), ("BadTable" : PySem.Str), ("NoInverse" : PySem.Str), ("Flat" : PySem.Str), ("TooLong" : PySem.Str), ("NoTurns" : PySem.Str), ("BadTurn" : PySem.Str), ("BadPair" : PySem.Str), ("NoTurn" : PySem.Str), ("NotEnded" : PySem.Str), ("NotEndless" : PySem.Str), ("NotLooped" : PySem.Str), ("BadRow" : PySem.Str), ("BadDisc" : PySem.Str)]
def names1 : List PySem.Str := [("BadSide" : PySem.Str), ("MOST_DIGITS" : PySem.Str), ("MOST_EXPONENT_frac" : PySem.Str), ("read_number" : PySem.Str), ("sign_of" : PySem.Str), ("Frac" : PySem.Str), ("MOST_EXPONENT_table" : PySem.Str), ("Table" : PySem.Str), ("turn_of_loop" : PySem.Str), ("loop_from" : PySem.Str), ("turn_in" : PySem.Str), ("unrolled" : PySem.Str), ("_spread" : PySem.Str), ("least_loop" : PySem.Str), ("one_form" : PySem.Str), ("read_whole" : PySem.Str), ("_pair_text" : PySem.Str), ("written" : PySem.Str), ("_read_turns" : PySem.Str), ("_read_pair" : PySem.Str)]
def names2 : List PySem.Str := [("_read_loop" : PySem.Str), ("_read_further" : PySem.Str), ("read_loose" : PySem.Str), ("MOST_TURNS" : PySem.Str), ("kind_of" : PySem.Str), ("turns_table" : PySem.Str), ("Row" : PySem.Str), ("unfit_disc" : PySem.Str), ("floor_by_side" : PySem.Str), ("moved_numbers" : PySem.Str), ("Root" : PySem.Str), ("LIMIT" : PySem.Str), ("_walk" : PySem.Str), ("_settled" : PySem.Str), ("row_of" : PySem.Str), ("keeper" : PySem.Str), ("MOST_POINTS" : PySem.Str), ("along" : PySem.Str), ("check_sail" : PySem.Str), ("first_edge" : PySem.Str)]
def names3 : List PySem.Str := [("next_edge" : PySem.Str), ("sail" : PySem.Str), ("root_of" : PySem.Str), ("_law_pool" : PySem.Str), ("_law_draw" : PySem.Str), ("_law_whole" : PySem.Str), ("_law_turn" : PySem.Str), ("_law_looped" : PySem.Str), ("_law_short" : PySem.Str), ("_law_product" : PySem.Str), ("_law_times" : PySem.Str), ("_law_back" : PySem.Str), ("_law_keeper" : PySem.Str), ("_law_numbers" : PySem.Str), ("_law_points" : PySem.Str), ("_law_are_points" : PySem.Str), ("_law_corner" : PySem.Str), ("_law_moved" : PySem.Str), ("_law_carries" : PySem.Str), ("_law_follow" : PySem.Str)]
def names : List PySem.Str := names0 ++ names1 ++ names2 ++ names3
def ob (s : SharedT) : He.AlD := obsXG (HandSHeadRun.getT s)
theorem ob_eq (s : SharedT) : ob s = hookX.obs s.abs := by
  have e : HandSHeadRun.getT s = s.abs.heap.get? := funext (HandSHeadRun.getT_eq s)
  unfold ob
  rw [e]; rfl
theorem run (w : World) : HandSHeadRun.RunEqI R qv hookX ob 12000 names w := by
  unfold HandSHeadRun.RunEqI
  kernel_rfl
end
end Gw
set_option Elab.async false
set_option linter.all false
set_option maxRecDepth 100000
/-! Data: what a value is, without the heap; the state of a def's frame by data. -/
namespace DL
open PySem L2
abbrev Frag := PySem.W.Frag
inductive D where
  | non | bl (b : Bool) | int (i : Int) | str (s : Str)
  | tup (xs : List D) | lst (xs : List D)
  | ins (C : Addr) (ns : List Str) (xs : List D)
  | scr (ns : List Int)
section
variable (K : Frag) (H : Hp)
mutual
def Rp : D → V → Prop
  | .non, v => v = .non
  | .bl b, v => v = .bl b
  | .int i, v => v = .int i
  | .str s, v => v = .str s
  | .tup ds, v => ∃ a vs, v = .ref a ∧ SqT K H a vs ∧ RpL ds vs
  | .lst ds, v => ∃ a vs, v = .ref a ∧ H a = some (.lst vs) ∧ RpL ds vs
  | .ins C ns ds, v => ∃ a dx vs, v = .ref a ∧ H a = some (.ins C dx (ns.zip vs)) ∧ ns.length = ds.length ∧ RpL ds vs
  | .scr ns, v => ∃ a, v = .ref a ∧ SqL K H a (ns.map V.int)
def RpL : List D → List V → Prop
  | [], vs => vs = []
  | d :: ds, vs => ∃ v r, vs = v :: r ∧ Rp d v ∧ RpL ds r
end
end
abbrev Ex := Evl.Ex
theorem sqT_ex {K : Frag} {H H' : Hp} {a : Addr} {xs : List V} (e : Ex H H') (h : SqT K H a xs) : SqT K H' a xs := Evl.ex_t e h
mutual
theorem Rp.ex {K : Frag} {H H' : Hp} (e : Ex H H') : ∀ {d : D} {v : V}, Rp K H d v → Rp K H' d v
  | .non, _, h => h
  | .bl _, _, h => h
  | .int _, _, h => h
  | .str _, _, h => h
  | .tup ds, v, h => by
    obtain ⟨a, vs, e1, e2, e3⟩ := h
    exact ⟨a, vs, e1, sqT_ex e e2, RpL.ex e e3⟩
  | .lst ds, v, h => by
    obtain ⟨a, vs, e1, e2, e3⟩ := h
    exact ⟨a, vs, e1, e _ _ e2, RpL.ex e e3⟩
  | .ins C ns ds, v, h => by
    obtain ⟨a, dx, vs, e1, e2, e3, e4⟩ := h
    exact ⟨a, dx, vs, e1, e _ _ e2, e3, RpL.ex e e4⟩
  | .scr ns, v, h => by
    obtain ⟨a, e1, e2⟩ := h
    exact ⟨a, e1, Evl.ex_l e e2⟩
theorem RpL.ex {K : Frag} {H H' : Hp} (e : Ex H H') : ∀ {ds : List D} {vs : List V}, RpL K H ds vs → RpL K H' ds vs
  | [], _, h => h
  | d :: ds, vs, h => by
    obtain ⟨v, r, e1, e2, e3⟩ := h
    exact ⟨v, r, e1, Rp.ex e e2, RpL.ex e e3⟩
end
section
variable {K : Frag} {H : Hp}
theorem RpL.length : ∀ {ds : List D} {vs : List V}, RpL K H ds vs → vs.length = ds.length
  | [], _, h => by cases h; rfl
  | d :: ds, vs, h => by obtain ⟨v, r, rfl, _, h3⟩ := h; simp [RpL.length h3]
theorem RpL.get : ∀ {ds : List D} {vs : List V} {i : Nat} {d : D}, RpL K H ds vs → ds[i]? = some d → ∃ v, vs[i]? = some v ∧ Rp K H d v
  | [], _, _, _, _, e => by simp at e
  | d :: ds, vs, 0, d', h, e => by obtain ⟨v, r, rfl, h2, _⟩ := h; simp at e; subst e; exact ⟨v, rfl, h2⟩
  | d :: ds, vs, i + 1, d', h, e => by obtain ⟨v, r, rfl, _, h3⟩ := h; exact RpL.get (i := i) h3 (by simpa using e)
theorem RpL.get' : ∀ {ds : List D} {vs : List V} {i : Nat} {v : V}, RpL K H ds vs → vs[i]? = some v → ∃ d, ds[i]? = some d ∧ Rp K H d v
  | [], _, _, _, h, e => by cases h; simp at e
  | d :: ds, vs, 0, v', h, e => by obtain ⟨v, r, rfl, h2, _⟩ := h; simp at e; subst e; exact ⟨d, rfl, h2⟩
  | d :: ds, vs, i + 1, v', h, e => by obtain ⟨v, r, rfl, _, h3⟩ := h; exact RpL.get' (i := i) h3 (by simpa using e)
theorem RpL.append : ∀ {ds es : List D} {vs ws : List V}, RpL K H ds vs → RpL K H es ws → RpL K H (ds ++ es) (vs ++ ws)
  | [], _, _, _, h, k => by cases h; exact k
  | d :: ds, es, vs, ws, h, k => by obtain ⟨v, r, rfl, h2, h3⟩ := h; exact ⟨v, r ++ ws, rfl, h2, RpL.append h3 k⟩
theorem RpL.take : ∀ (n : Nat) {ds : List D} {vs : List V}, RpL K H ds vs → RpL K H (ds.take n) (vs.take n)
  | 0, _, _, _ => rfl
  | n + 1, [], _, h => by cases h; rfl
  | n + 1, d :: ds, vs, h => by obtain ⟨v, r, rfl, h2, h3⟩ := h; exact ⟨v, r.take n, rfl, h2, RpL.take n h3⟩
theorem RpL.drop : ∀ (n : Nat) {ds : List D} {vs : List V}, RpL K H ds vs → RpL K H (ds.drop n) (vs.drop n)
  | 0, _, _, h => h
  | n + 1, [], _, h => by cases h; rfl
  | n + 1, d :: ds, vs, h => by obtain ⟨v, r, rfl, h2, h3⟩ := h; exact RpL.drop n h3
theorem RpL.set : ∀ (i : Nat) {ds : List D} {vs : List V} {d : D} {v : V}, RpL K H ds vs → Rp K H d v → RpL K H (ds.set i d) (vs.set i v)
  | _, [], _, _, _, h, _ => by cases h; rfl
  | 0, d :: ds, vs, _, v', h, k => by obtain ⟨v, r, rfl, h2, h3⟩ := h; exact ⟨v', r, rfl, k, h3⟩
  | i + 1, d :: ds, vs, d', v', h, k => by obtain ⟨v, r, rfl, h2, h3⟩ := h; exact ⟨v, r.set i v', rfl, h2, RpL.set i h3 k⟩
theorem RpL.dropLast {ds : List D} {vs : List V} (h : RpL K H ds vs) : RpL K H ds.dropLast vs.dropLast := by
  rw [List.dropLast_eq_take, List.dropLast_eq_take, h.length]; exact h.take _
theorem RpL.eraseIdx : ∀ (i : Nat) {ds : List D} {vs : List V}, RpL K H ds vs → RpL K H (ds.eraseIdx i) (vs.eraseIdx i)
  | _, [], _, h => by cases h; exact rfl
  | 0, d :: ds, vs, h => by obtain ⟨v, r, rfl, h2, h3⟩ := h; exact h3
  | i + 1, d :: ds, vs, h => by obtain ⟨v, r, rfl, h2, h3⟩ := h; exact ⟨v, r.eraseIdx i, rfl, h2, RpL.eraseIdx i h3⟩
theorem RpL.rep {ds : List D} {vs : List V} (h : RpL K H ds vs) : ∀ k : Nat, RpL K H (List.replicate k ds).flatten (List.replicate k vs).flatten
  | 0 => rfl
  | k + 1 => by rw [List.replicate_succ, List.replicate_succ, List.flatten_cons, List.flatten_cons]; exact h.append (h.rep k)
theorem RpL.ints : ∀ {ns : List Int} {vs : List V}, RpL K H (ns.map D.int) vs ↔ vs = ns.map V.int
  | [], vs => Iff.rfl
  | n :: ns, vs => by
    constructor
    · rintro ⟨v, r, rfl, h2, h3⟩
      have e : v = .int n := h2
      rw [e, RpL.ints.mp h3]; rfl
    · rintro rfl
      exact ⟨_, _, rfl, rfl, RpL.ints.mpr rfl⟩
theorem RpL.lookup : ∀ {ns : List Str} {ds : List D} {vs : List V} {f : Str} {d : D}, RpL K H ds vs → (ns.zip ds).lookup f = some d → ∃ v, (ns.zip vs).lookup f = some v ∧ Rp K H d v
  | [], _, _, _, _, _, e => by simp at e
  | n :: ns, [], _, _, _, h, e => by simp at e
  | n :: ns, d :: ds, vs, f, d', h, e => by
    obtain ⟨v, r, rfl, h2, h3⟩ := h
    rw [List.zip_cons_cons, List.lookup_cons] at e ⊢
    cases q : (f == n) with
    | true => rw [q] at e; simp only at e; cases e; exact ⟨v, rfl, h2⟩
    | false => rw [q] at e; simp only at e; exact RpL.lookup h3 e
theorem RpL.lookup_none : ∀ {ns : List Str} {ds : List D} {vs : List V} {f : Str}, RpL K H ds vs → (ns.zip ds).lookup f = none → (ns.zip vs).lookup f = none
  | [], _, _, _, _, _ => by simp
  | n :: ns, [], _, _, h, e => by cases h; simp
  | n :: ns, d :: ds, vs, f, h, e => by
    obtain ⟨v, r, rfl, h2, h3⟩ := h
    rw [List.zip_cons_cons, List.lookup_cons] at e ⊢
    cases q : (f == n) with
    | true => rw [q] at e; simp at e
    | false => rw [q] at e; simp only at e ⊢; exact RpL.lookup_none h3 e
end
/-! ### a frame by data -/
/-- a slot: nothing known; a value that no one changes; a list, an instance, a dict that this frame alone holds -/
inductive Sl where
  | un | fr (d : D) | ow (t : Option Addr) (xs : List D) | oi (t : Addr) (C : Addr) (ns : List Str) (xs : List D) | od (kvs : List (List Key × V))
def Sl.own : Sl → Bool
  | .un => false
  | .fr _ => false
  | _ => true
abbrev DE := List Sl
def Hid (Δ : DE) (ad : Nat → Addr) (H0 G : Hp) (a : Addr) : Prop := (∃ i s, Δ[i]? = some s ∧ s.own = true ∧ ad i = a) ∨ (H0 a ≠ none ∧ G a = none)
open Classical in
noncomputable def vis (Δ : DE) (ad : Nat → Addr) (H0 G H : Hp) : Hp := fun a => if Hid Δ ad H0 G a then none else H a
theorem vis_no {Δ : DE} {ad : Nat → Addr} {H0 G H : Hp} {a : Addr} (h : ¬ Hid Δ ad H0 G a) : vis Δ ad H0 G H a = H a := by unfold vis; rw [if_neg h]
theorem vis_hid {Δ : DE} {ad : Nat → Addr} {H0 G H : Hp} {a : Addr} (h : Hid Δ ad H0 G a) : vis Δ ad H0 G H a = none := by unfold vis; rw [if_pos h]
theorem vis_some {Δ : DE} {ad : Nat → Addr} {H0 G H : Hp} {a : Addr} {o : HO} (h : vis Δ ad H0 G H a = some o) : ¬ Hid Δ ad H0 G a ∧ H a = some o := by
  by_cases q : Hid Δ ad H0 G a
  · rw [vis_hid q] at h; cases h
  · rw [vis_no q] at h; exact ⟨q, h⟩
theorem vis_sub {Δ : DE} {ad : Nat → Addr} {H0 G H : Hp} : Ex (vis Δ ad H0 G H) H := fun _ _ h => (vis_some h).2
theorem vis_ex {Δ : DE} {ad : Nat → Addr} {H0 G H H' : Hp} (e : Ex H H') : Ex (vis Δ ad H0 G H) (vis Δ ad H0 G H') := fun a o h => by
  obtain ⟨h1, h2⟩ := vis_some h
  rw [vis_no h1]; exact e _ _ h2
/-- what one slot holds -/
def SlOk (K : Frag) (F H : Hp) (p : Addr) (s : Sl) (x : Option (Option V)) : Prop := match s with
  | .un => ∃ u, x = some u
  | .fr d => ∃ v, x = some (some v) ∧ Rp K F d v
  | .ow t ds => (∀ q, t = some q → q = p) ∧ x = some (some (.ref p)) ∧ ∃ vs, H p = some (.lst vs) ∧ RpL K F ds vs
  | .oi t C ns ds => t = p ∧ x = some (some (.ref p)) ∧ ∃ dx vs, H p = some (.ins C dx (ns.zip vs)) ∧ ns.length = ds.length ∧ RpL K F ds vs
  | .od kvs => x = some (some (.ref p)) ∧ H p = some (.dT kvs)
def Mono (T : Hp → Prop) : Prop := ∀ F F', Ex F F' → T F → T F'
theorem mono_true : Mono fun _ => True := fun _ _ _ _ => trivial
theorem mono_rp {K : Frag} {d : D} {v : V} : Mono fun F => Rp K F d v := fun _ _ e h => h.ex e
theorem mono_rpL {K : Frag} {ds : List D} {vs : List V} : Mono fun F => RpL K F ds vs := fun _ _ e h => h.ex e
theorem mono_and {T U : Hp → Prop} (h : Mono T) (k : Mono U) : Mono fun F => T F ∧ U F := fun F F' e x => ⟨h F F' e x.1, k F F' e x.2⟩
structure OkA (K : Frag) (H0 G : Hp) (ad : Nat → Addr) (T : Hp → Prop) (Δ : DE) (σ : St) (H : Hp) : Prop where
  ext : Ex H0 H
  sub : Ex G H0
  fr0 : ∀ i s, Δ[i]? = some s → s.own = true → H0 (ad i) = none
  inj : ∀ i j s u, Δ[i]? = some s → s.own = true → Δ[j]? = some u → u.own = true → ad i = ad j → i = j
  len : σ.length = Δ.length
  sl : ∀ i s, Δ[i]? = some s → SlOk K (vis Δ ad H0 G H) H (ad i) s σ[i]?
  mono : Mono T
  tmp : T (vis Δ ad H0 G H)
def Ok (K : Frag) (H0 G : Hp) (T : Hp → Prop) (Δ : DE) (σ : St) (H : Hp) : Prop := ∃ ad, OkA K H0 G ad T Δ σ H
section
variable {K : Frag} {H0 G H H' : Hp} {ad : Nat → Addr} {T U : Hp → Prop} {Δ : DE} {σ : St}
theorem SlOk.ex {F F' : Hp} {p : Addr} {s : Sl} {x : Option (Option V)} (e : Ex F F') (e2 : Ex H H') (h : SlOk K F H p s x) : SlOk K F' H' p s x := by
  cases s with
  | un => exact h
  | fr d => obtain ⟨v, h1, h2⟩ := h; exact ⟨v, h1, h2.ex e⟩
  | ow t ds => obtain ⟨h0, h1, vs, h2, h3⟩ := h; exact ⟨h0, h1, vs, e2 _ _ h2, h3.ex e⟩
  | oi t C ns ds => obtain ⟨h0, h1, dx, vs, h2, h3, h4⟩ := h; exact ⟨h0, h1, dx, vs, e2 _ _ h2, h3, h4.ex e⟩
  | od kvs => exact ⟨h.1, e2 _ _ h.2⟩
theorem SlOk.there {F : Hp} {p : Addr} {s : Sl} {x : Option (Option V)} (h : SlOk K F H p s x) (o : s.own = true) : ∃ ob, H p = some ob := by
  cases s with
  | un => cases o
  | fr d => cases o
  | ow t ds => obtain ⟨_, _, vs, h2, _⟩ := h; exact ⟨_, h2⟩
  | oi t C ns ds => obtain ⟨_, _, dx, vs, h2, _⟩ := h; exact ⟨_, h2⟩
  | od kvs => exact ⟨_, h.2⟩
theorem SlOk.ref {F : Hp} {p : Addr} {s : Sl} {x : Option (Option V)} (h : SlOk K F H p s x) (o : s.own = true) : x = some (some (.ref p)) := by
  cases s with
  | un => cases o
  | fr d => cases o
  | ow t ds => exact h.2.1
  | oi t C ns ds => exact h.2.1
  | od kvs => exact h.1
theorem OkA.grow (I : OkA K H0 G ad T Δ σ H) (e : Ex H H') : OkA K H0 G ad T Δ σ H' :=
  ⟨I.ext.trans e, I.sub, I.fr0, I.inj, I.len, fun i s h => (I.sl i s h).ex (vis_ex e) e, I.mono, I.mono _ _ (vis_ex e) I.tmp⟩
theorem OkA.to (I : OkA K H0 G ad T Δ σ H) (m : Mono U) (h : U (vis Δ ad H0 G H)) : OkA K H0 G ad U Δ σ H := ⟨I.ext, I.sub, I.fr0, I.inj, I.len, I.sl, m, h⟩
theorem OkA.hid_some (I : OkA K H0 G ad T Δ σ H) {a : Addr} (h : Hid Δ ad H0 G a) : H a ≠ none := by
  rcases h with ⟨i, s, h1, h2, rfl⟩ | ⟨h1, _⟩
  · obtain ⟨ob, h3⟩ := (I.sl i s h1).there h2
    rw [h3]; exact fun z => nomatch z
  · cases q : H0 a with
    | none => exact absurd q h1
    | some o => rw [I.ext _ _ q]; exact fun z => nomatch z
theorem OkA.new_vis (I : OkA K H0 G ad T Δ σ H) {p : Addr} {o : HO} (hp : H p = none) : vis Δ ad H0 G (upd H p o) p = some o := by
  rw [vis_no fun z => I.hid_some z hp, upd_same]
/-- G lies in what is seen -/
theorem OkA.gvis (I : OkA K H0 G ad T Δ σ H) : Ex G (vis Δ ad H0 G H) := fun a o h => by
  have h0 := I.sub _ _ h
  rw [vis_no]
  · exact I.ext _ _ h0
  · rintro (⟨i, s, h1, h2, rfl⟩ | ⟨_, h2⟩)
    · rw [I.fr0 i s h1 h2] at h0; cases h0
    · rw [h] at h2; cases h2
theorem Ok.mono (I : Ok K H0 G T Δ σ H) : Mono T := by obtain ⟨ad, I⟩ := I; exact I.mono
theorem Ok.grow (I : Ok K H0 G T Δ σ H) (e : Ex H H') : Ok K H0 G T Δ σ H' := by obtain ⟨ad, I⟩ := I; exact ⟨ad, I.grow e⟩
theorem Ok.weak (I : Ok K H0 G T Δ σ H) (m : Mono U) (h : ∀ F, T F → U F) : Ok K H0 G U Δ σ H := by obtain ⟨ad, I⟩ := I; exact ⟨ad, I.to m (h _ I.tmp)⟩
/-- what is seen: a part F of the heap, what is known of it -/
theorem Ok.open_ (I : Ok K H0 G T Δ σ H) : ∃ F, Ex G F ∧ Ex F H ∧ T F ∧ (∀ U, Mono U → U F → Ok K H0 G U Δ σ H) ∧ (∀ (i : Nat) (d : D), Δ[i]? = some (Sl.fr d) → ∃ v, σ[i]? = some (some v) ∧ Rp K F d v) ∧
    (∀ (i : Nat) (t : Option Addr) (ds : List D), Δ[i]? = some (Sl.ow t ds) → ∃ p vs, (∀ q, t = some q → q = p) ∧ σ[i]? = some (some (V.ref p)) ∧ H p = some (.lst vs) ∧ RpL K F ds vs ∧ F p = none) ∧
    (∀ (i : Nat) (x C : Addr) (ns : List Str) (ds : List D), Δ[i]? = some (Sl.oi x C ns ds) → ∃ dx vs, σ[i]? = some (some (V.ref x)) ∧ H x = some (.ins C dx (ns.zip vs)) ∧ ns.length = ds.length ∧ RpL K F ds vs ∧ F x = none) ∧
    (∀ (i : Nat) (kvs : List (List Key × V)), Δ[i]? = some (Sl.od kvs) → ∃ p, σ[i]? = some (some (V.ref p)) ∧ H p = some (.dT kvs) ∧ F p = none) := by
  obtain ⟨ad, I⟩ := I
  refine ⟨vis Δ ad H0 G H, I.gvis, vis_sub, I.tmp, fun U m h => ⟨ad, I.to m h⟩, fun i d h => I.sl i _ h, fun i t ds h => ?_, fun i x C ns ds h => ?_, fun i kvs h => ?_⟩
  · obtain ⟨h0, h1, vs, h2, h3⟩ := I.sl i _ h
    exact ⟨ad i, vs, h0, h1, h2, h3, vis_hid (.inl ⟨i, _, h, rfl, rfl⟩)⟩
  · obtain ⟨h0, h1, dx, vs, h2, h3, h4⟩ := I.sl i _ h
    rw [h0]
    exact ⟨dx, vs, h1, h2, h3, h4, vis_hid (.inl ⟨i, _, h, rfl, rfl⟩)⟩
  · obtain ⟨h1, h2⟩ := I.sl i _ h
    exact ⟨ad i, h1, h2, vis_hid (.inl ⟨i, _, h, rfl, rfl⟩)⟩
/-- what holds in the seen part from the ground on -/
theorem Ok.weak' {d : D} {v : V} (I : Ok K H0 G (fun _ => True) Δ σ H) (h : Rp K G d v) : Ok K H0 G (fun F => True ∧ Rp K F d v) Δ σ H := by
  obtain ⟨ad, I⟩ := I
  exact ⟨ad, I.to (mono_and mono_true mono_rp) ⟨trivial, h.ex I.gvis⟩⟩
/-- a new object -/
theorem Ok.new {p : Addr} {o : HO} (I : Ok K H0 G T Δ σ H) (hp : H p = none) (m : Mono U) (h : ∀ F F', T F → Ex F F' → F' p = some o → U F') : Ok K H0 G U Δ σ (upd H p o) := by
  obtain ⟨ad, I⟩ := I
  have e : Ex H (upd H p o) := Evl.Ex.new hp
  exact ⟨ad, (I.grow e).to m (h _ _ I.tmp (vis_ex e) (I.new_vis hp))⟩
theorem Ok.len (I : Ok K H0 G T Δ σ H) : σ.length = Δ.length := by obtain ⟨ad, I⟩ := I; exact I.len
/-- other slots, no more owned than before: what is seen grows -/
theorem vis_less {Δ' : DE} (h : ∀ (i : Nat) (s : Sl), Δ'[i]? = some s → s.own = true → ∃ s' : Sl, Δ[i]? = some s' ∧ s'.own = true) : Ex (vis Δ ad H0 G H) (vis Δ' ad H0 G H) := fun a o e => by
  obtain ⟨h1, h2⟩ := vis_some e
  rw [vis_no]
  · exact h2
  · rintro (⟨i, s, k1, k2, k3⟩ | k)
    · obtain ⟨s', k4, k5⟩ := h i s k1 k2
      exact h1 (.inl ⟨i, s', k4, k5, k3⟩)
    · exact h1 (.inr k)
theorem set_get {α : Type} {l : List α} {j i : Nat} {x y : α} (h : (l.set j x)[i]? = some y) : (i = j ∧ y = x) ∨ (i ≠ j ∧ l[i]? = some y) := by
  rw [List.getElem?_set] at h
  by_cases e : j = i
  · rw [if_pos e] at h
    by_cases q : j < l.length
    · rw [if_pos (by omega)] at h; exact .inl ⟨e.symm, (Option.some.inj h).symm⟩
    · rw [if_neg (by omega)] at h; cases h
  · rw [if_neg e] at h; exact .inr ⟨fun z => e z.symm, h⟩
/-- a name gets a value -/
theorem Ok.assign {j : Nat} {d : D} {v : V} (I : Ok K H0 G T Δ σ H) (m : Mono U) (h : ∀ F, T F → Rp K F d v ∧ U F) : Ok K H0 G U (Δ.set j (.fr d)) (σ.set j (some v)) H := by
  obtain ⟨ad, I⟩ := I
  have e : Ex (vis Δ ad H0 G H) (vis (Δ.set j (.fr d)) ad H0 G H) := vis_less fun i s h1 h2 => by
    rcases set_get h1 with ⟨_, rfl⟩ | ⟨_, k⟩
    · cases h2
    · exact ⟨s, k, h2⟩
  have ow : ∀ (i : Nat) (s : Sl), (Δ.set j (.fr d))[i]? = some s → s.own = true → Δ[i]? = some s ∧ i ≠ j := fun i s h1 h2 => by
    rcases set_get h1 with ⟨_, rfl⟩ | ⟨z, k⟩
    · cases h2
    · exact ⟨k, z⟩
  refine ⟨ad, I.ext, I.sub, fun i s h1 h2 => I.fr0 i s (ow i s h1 h2).1 h2, fun i k s u h1 h2 h3 h4 h5 => I.inj i k s u (ow i s h1 h2).1 h2 (ow k u h3 h4).1 h4 h5, by simp [I.len], fun i s h1 => ?_, m, m _ _ e (h _ I.tmp).2⟩
  rcases set_get h1 with ⟨rfl, rfl⟩ | ⟨z, k⟩
  · have hl : i < σ.length := by
      rw [I.len]
      have := List.getElem?_eq_some_iff.mp h1
      obtain ⟨q, _⟩ := this
      simpa using q
    exact ⟨v, by rw [List.getElem?_set, if_pos rfl, if_pos hl], (h _ I.tmp).1.ex e⟩
  · have z' : ¬ j = i := fun q => z q.symm
    rw [List.getElem?_set, if_neg z']
    exact (I.sl i s k).ex e fun _ _ q => q
/-- a name gets a new list of its own -/
theorem Ok.assignNew {j : Nat} {ds : List D} {p : Addr} {vs : List V} (I : Ok K H0 G T Δ σ H) (hp : H p = none) (m : Mono U) (h : ∀ F, T F → RpL K F ds vs ∧ U F) : Ok K H0 G U (Δ.set j (.ow none ds)) (σ.set j (some (.ref p))) (upd H p (.lst vs)) := by
  obtain ⟨ad, I⟩ := I
  let ad' : Nat → Addr := fun i => if i = j then p else ad i
  have ho : Ex H (upd H p (.lst vs)) := Evl.Ex.new hp
  have ow : ∀ (i : Nat) (s : Sl), (Δ.set j (.ow none ds))[i]? = some s → s.own = true → (i = j ∧ s = .ow none ds) ∨ (i ≠ j ∧ Δ[i]? = some s) := fun i s h1 _ => set_get h1
  have aj : ad' j = p := by show (if j = j then p else ad j) = p; rw [if_pos rfl]
  have an : ∀ i, i ≠ j → ad' i = ad i := fun i z => by show (if i = j then p else ad i) = ad i; rw [if_neg z]
  have adne : ∀ (i : Nat) (s : Sl), Δ[i]? = some s → s.own = true → ad i ≠ p := fun i s h1 h2 z => by
    obtain ⟨ob, q⟩ := (I.sl i s h1).there h2
    rw [z, hp] at q; cases q
  have hidp : ¬ Hid Δ ad H0 G p := fun z => I.hid_some z hp
  have e : Ex (vis Δ ad H0 G H) (vis (Δ.set j (.ow none ds)) ad' H0 G (upd H p (.lst vs))) := fun a o q => by
    obtain ⟨q1, q2⟩ := vis_some q
    have hap : a ≠ p := by rintro rfl; rw [hp] at q2; cases q2
    rw [vis_no]
    · rw [upd_ne hap]; exact q2
    · rintro (⟨i, s, h1, h2, h3⟩ | hf)
      · rcases ow i s h1 h2 with ⟨rfl, _⟩ | ⟨z, k⟩
        · rw [aj] at h3; exact hap h3.symm
        · rw [an i z] at h3; exact q1 (.inl ⟨i, s, k, h2, h3⟩)
      · exact q1 (.inr hf)
  refine ⟨ad', I.ext.trans ho, I.sub, fun i s h1 h2 => ?_, fun i k s u h1 h2 h3 h4 h5 => ?_, by simp [I.len], fun i s h1 => ?_, m, m _ _ e (h _ I.tmp).2⟩
  · rcases ow i s h1 h2 with ⟨rfl, _⟩ | ⟨z, k⟩
    · rw [aj]
      cases q : H0 p with
      | none => rfl
      | some o => have := I.ext _ _ q; rw [hp] at this; cases this
    · rw [an i z]; exact I.fr0 i s k h2
  · rcases ow i s h1 h2 with ⟨rfl, _⟩ | ⟨z, k1⟩
    · rcases ow k u h3 h4 with ⟨rfl, _⟩ | ⟨z', k2⟩
      · rfl
      · rw [aj, an k z'] at h5; exact absurd h5.symm (adne k u k2 h4)
    · rcases ow k u h3 h4 with ⟨rfl, _⟩ | ⟨z', k2⟩
      · rw [aj, an i z] at h5; exact absurd h5 (adne i s k1 h2)
      · rw [an i z, an k z'] at h5; exact I.inj i k s u k1 h2 k2 h4 h5
  · rcases set_get h1 with ⟨rfl, rfl⟩ | ⟨z, k⟩
    · have hl : i < σ.length := by
        rw [I.len]
        obtain ⟨q, _⟩ := List.getElem?_eq_some_iff.mp h1
        simpa using q
      refine ⟨fun q z => (nomatch z), ?_, vs, ?_, (h _ I.tmp).1.ex e⟩
      · rw [List.getElem?_set, if_pos rfl, if_pos hl, aj]
      · rw [aj, upd_same]
    · rw [an i z, List.getElem?_set, if_neg fun q => z q.symm]
      exact (I.sl i s k).ex e ho
/-- what one holds alone is changed -/
theorem Ok.setOwn {i : Nat} {s0 s1 : Sl} {p : Addr} {o1 : HO} (I : Ok K H0 G T Δ σ H) (hi : Δ[i]? = some s0) (ho0 : s0.own = true) (ho1 : s1.own = true) (hs : σ[i]? = some (some (.ref p))) (m : Mono U)
    (h : ∀ F, T F → SlOk K F H p s0 σ[i]? → SlOk K F (upd H p o1) p s1 σ[i]? ∧ U F) : Ok K H0 G U (Δ.set i s1) σ (upd H p o1) := by
  obtain ⟨ad, I⟩ := I
  have k0 := I.sl i _ hi
  have k1 := k0.ref ho0
  have ep : p = ad i := by rw [hs] at k1; injection k1 with k; injection k with k; injection k
  subst ep
  have ow : ∀ (k : Nat) (s : Sl), (Δ.set i s1)[k]? = some s → s.own = true → ∃ s' : Sl, Δ[k]? = some s' ∧ s'.own = true := fun k s h1 h2 => by
    rcases set_get h1 with ⟨rfl, _⟩ | ⟨z, q⟩
    · exact ⟨_, hi, ho0⟩
    · exact ⟨s, q, h2⟩
  have e : Ex (vis Δ ad H0 G H) (vis (Δ.set i s1) ad H0 G (upd H (ad i) o1)) := fun a o q => by
    obtain ⟨q1, q2⟩ := vis_some q
    have hap : a ≠ ad i := by rintro rfl; exact q1 (.inl ⟨i, _, hi, ho0, rfl⟩)
    rw [vis_no]
    · rw [upd_ne hap]; exact q2
    · rintro (⟨k, s, h1, h2, h3⟩ | hf)
      · obtain ⟨s', h4, h5⟩ := ow k s h1 h2
        exact q1 (.inl ⟨k, s', h4, h5, h3⟩)
      · exact q1 (.inr hf)
  have h00 : H0 (ad i) = none := I.fr0 i _ hi ho0
  obtain ⟨w1, w2⟩ := h _ I.tmp k0
  refine ⟨ad, fun a o q => ?_, I.sub, fun k s h1 h2 => ?_, fun k l s u h1 h2 h3 h4 h5 => ?_, by simp [I.len], fun k s h1 => ?_, m, m _ _ e w2⟩
  · rw [upd_ne (by rintro rfl; rw [h00] at q; cases q)]; exact I.ext _ _ q
  · obtain ⟨s', h4, h5⟩ := ow k s h1 h2
    exact I.fr0 k s' h4 h5
  · obtain ⟨s', h6, h7⟩ := ow k s h1 h2
    obtain ⟨u', h8, h9⟩ := ow l u h3 h4
    exact I.inj k l s' u' h6 h7 h8 h9 h5
  · rcases set_get h1 with ⟨rfl, rfl⟩ | ⟨z, q⟩
    · exact w1.ex e fun _ _ z => z
    · by_cases o : s.own = true
      · have hne : ad k ≠ ad i := fun w => z (I.inj k i s _ q o hi ho0 w)
        have := I.sl k s q
        cases s with
        | un => cases o
        | fr d => cases o
        | ow t ds => obtain ⟨b0, b1, ws, b2, b3⟩ := this; exact ⟨b0, b1, ws, by rw [upd_ne hne]; exact b2, b3.ex e⟩
        | oi t C ns ds => obtain ⟨b0, b1, dx, ws, b2, b3, b4⟩ := this; exact ⟨b0, b1, dx, ws, by rw [upd_ne hne]; exact b2, b3, b4.ex e⟩
        | od kvs => exact ⟨this.1, by rw [upd_ne hne]; exact this.2⟩
      · have := I.sl k s q
        cases s with
        | un => exact this
        | fr d => obtain ⟨v, b1, b2⟩ := this; exact ⟨v, b1, b2.ex e⟩
        | ow t ds => exact absurd rfl o
        | oi t C ns ds => exact absurd rfl o
        | od kvs => exact absurd rfl o
/-- a list of one's own is changed -/
theorem Ok.setList {i : Nat} {t : Option Addr} {ds ds' : List D} {p : Addr} {vs' : List V} (I : Ok K H0 G T Δ σ H) (hi : Δ[i]? = some (.ow t ds)) (hs : σ[i]? = some (some (.ref p))) (m : Mono U) (h : ∀ F, T F → RpL K F ds' vs' ∧ U F) :
    Ok K H0 G U (Δ.set i (.ow t ds')) σ (upd H p (.lst vs')) :=
  I.setOwn hi rfl rfl hs m fun F x k => ⟨⟨k.1, k.2.1, vs', upd_same, (h F x).1⟩, (h F x).2⟩
/-- a list of one's own is given up: from now on no one changes it -/
theorem Ok.freeze {i : Nat} {t : Option Addr} {ds : List D} (I : Ok K H0 G T Δ σ H) (hi : Δ[i]? = some (.ow t ds)) : Ok K H0 G T (Δ.set i (.fr (.lst ds))) σ H := by
  obtain ⟨ad, I⟩ := I
  obtain ⟨_, k1, vs, k2, k3⟩ := I.sl i _ hi
  have ow : ∀ (k : Nat) (s : Sl), (Δ.set i (.fr (.lst ds)))[k]? = some s → s.own = true → k ≠ i ∧ Δ[k]? = some s := fun k s h1 h2 => by
    rcases set_get h1 with ⟨rfl, rfl⟩ | ⟨z, q⟩
    · cases h2
    · exact ⟨z, q⟩
  have e : Ex (vis Δ ad H0 G H) (vis (Δ.set i (.fr (.lst ds))) ad H0 G H) := vis_less fun k s h1 h2 => ⟨s, (ow k s h1 h2).2, h2⟩
  have h00 : H0 (ad i) = none := I.fr0 i _ hi rfl
  refine ⟨ad, I.ext, I.sub, fun k s h1 h2 => I.fr0 k s (ow k s h1 h2).2 h2, fun k l s u h1 h2 h3 h4 h5 => I.inj k l s u (ow k s h1 h2).2 h2 (ow l u h3 h4).2 h4 h5, by simp [I.len], fun k s h1 => ?_, I.mono, I.mono _ _ e I.tmp⟩
  rcases set_get h1 with ⟨rfl, rfl⟩ | ⟨z, q⟩
  · refine ⟨_, k1, ad k, vs, rfl, ?_, k3.ex e⟩
    rw [vis_no]
    · exact k2
    · rintro (⟨l, s, h3, h4, h5⟩ | ⟨h3, _⟩)
      · obtain ⟨h6, h7⟩ := ow l s h3 h4
        exact h6 (I.inj l k s _ h7 h4 hi rfl h5)
      · exact h3 h00
  · exact (I.sl k s q).ex e fun _ _ q => q
/-- what a slot holds is forgotten -/
theorem Ok.forget {i : Nat} (I : Ok K H0 G T Δ σ H) : Ok K H0 G T (Δ.set i .un) σ H := by
  obtain ⟨ad, I⟩ := I
  have ow : ∀ (k : Nat) (s : Sl), (Δ.set i .un)[k]? = some s → s.own = true → k ≠ i ∧ Δ[k]? = some s := fun k s h1 h2 => by
    rcases set_get h1 with ⟨rfl, rfl⟩ | ⟨z, q⟩
    · cases h2
    · exact ⟨z, q⟩
  have e : Ex (vis Δ ad H0 G H) (vis (Δ.set i .un) ad H0 G H) := vis_less fun k s h1 h2 => ⟨s, (ow k s h1 h2).2, h2⟩
  refine ⟨ad, I.ext, I.sub, fun k s h1 h2 => I.fr0 k s (ow k s h1 h2).2 h2, fun k l s u h1 h2 h3 h4 h5 => I.inj k l s u (ow k s h1 h2).2 h2 (ow l u h3 h4).2 h4 h5, by simp [I.len], fun k s h1 => ?_, I.mono, I.mono _ _ e I.tmp⟩
  rcases set_get h1 with ⟨rfl, rfl⟩ | ⟨z, q⟩
  · have hl : k < σ.length := by
      rw [I.len]
      obtain ⟨q, _⟩ := List.getElem?_eq_some_iff.mp h1
      simpa using q
    exact ⟨σ[k], List.getElem?_eq_getElem hl⟩
  · exact (I.sl k s q).ex e fun _ _ q => q
/-- a new ground: all that is seen stands from now on -/
theorem Ok.rebase (I : Ok K H0 G T Δ σ H) : ∃ H1 G1, Ok K H1 G1 T Δ σ H ∧ T G1 ∧ Ex G1 H1 ∧ (∀ T' Δ' σ' H', Ok K H1 G1 T' Δ' σ' H' → Ok K H0 G T' Δ' σ' H') := by
  obtain ⟨ad, I⟩ := I
  let own : Addr → Prop := fun a => ∃ (i : Nat) (s : Sl), Δ[i]? = some s ∧ s.own = true ∧ ad i = a
  have own0 : ∀ a, own a → H0 a = none := by rintro a ⟨i, s, h1, h2, rfl⟩; exact I.fr0 i s h1 h2
  classical
  let H1 : Hp := fun a => if own a then none else H a
  let G1 : Hp := vis Δ ad H0 G H
  have g1 : Ex G1 H1 := fun a o h => by
    obtain ⟨h1, h2⟩ := vis_some h
    show (if own a then none else H a) = some o
    rw [if_neg fun z => h1 (.inl z)]; exact h2
  have e01 : Ex H0 H1 := fun a o h => by
    show (if own a then none else H a) = some o
    rw [if_neg fun z => by rw [own0 a z] at h; cases h]; exact I.ext _ _ h
  have e1 : Ex H1 H := fun a o h => by
    have h' : (if own a then none else H a) = some o := h
    by_cases q : own a
    · rw [if_pos q] at h'; cases h'
    · rw [if_neg q] at h'; exact h'
  -- the foreign addresses are the same
  have fo : ∀ a, (H1 a ≠ none ∧ G1 a = none) ↔ (H0 a ≠ none ∧ G a = none) := fun a => by
    constructor
    · rintro ⟨h1, h2⟩
      have h1' : (if own a then none else H a) ≠ none := h1
      by_cases q : own a
      · rw [if_pos q] at h1'; exact absurd rfl h1'
      · rw [if_neg q] at h1'
        by_cases hh : Hid Δ ad H0 G a
        · rcases hh with z | z
          · exact absurd z q
          · exact z
        · exact absurd ((vis_no hh).symm.trans h2) h1'
    · rintro ⟨h1, h2⟩
      constructor
      · cases q : H0 a with
        | none => exact absurd q h1
        | some o => rw [e01 _ _ q]; exact fun z => nomatch z
      · exact vis_hid (.inr ⟨h1, h2⟩)
  have hidEq : ∀ Δ' ad' a, Hid Δ' ad' H1 G1 a ↔ Hid Δ' ad' H0 G a := fun Δ' ad' a => by
    unfold Hid; rw [fo a]
  have visEq : ∀ Δ' ad' H', vis Δ' ad' H1 G1 H' = vis Δ' ad' H0 G H' := fun Δ' ad' H' => by
    funext a
    by_cases q : Hid Δ' ad' H0 G a
    · rw [vis_hid q, vis_hid ((hidEq Δ' ad' a).mpr q)]
    · rw [vis_no q, vis_no fun z => q ((hidEq Δ' ad' a).mp z)]
  refine ⟨H1, G1, ⟨ad, e1, g1, fun i s h1 h2 => ?_, I.inj, I.len, fun i s h1 => by rw [visEq]; exact I.sl i s h1, I.mono, by rw [visEq]; exact I.tmp⟩, I.tmp, g1, ?_⟩
  · show (if own (ad i) then none else H (ad i)) = none
    rw [if_pos ⟨i, s, h1, h2, rfl⟩]
  · rintro T' Δ' σ' H' ⟨ad', J⟩
    refine ⟨ad', e01.trans J.ext, I.sub, fun i s h1 h2 => ?_, J.inj, J.len, fun i s h1 => by rw [← visEq]; exact J.sl i s h1, J.mono, by rw [← visEq]; exact J.tmp⟩
    cases q : H0 (ad' i) with
    | none => rfl
    | some o => have := e01 _ _ q; rw [J.fr0 i s h1 h2] at this; cases this
end
end DL

set_option Elab.async false
set_option linter.all false
set_option maxRecDepth 100000
set_option maxHeartbeats 1000000
namespace DL
open PySem L2
section
variable {K : Frag}
/-! ### what evaluates to what -/
def EvD (K : Frag) (te : TE) (Δ : DE) (d : D) (Δ' : DE) : Prop := ∀ (H0 G : Hp) (T : Hp → Prop) (σ : St) (H : Hp), Ok K H0 G T Δ σ H → ∀ Q : VK, (∀ v H', Ok K H0 G (fun F => T F ∧ Rp K F d v) Δ' σ H' → Q v H') → te σ H Q
def EvL (K : Frag) (te : TE) (Δ : DE) (ds : List D) (Δ' : DE) : Prop := ∀ (H0 G : Hp) (T : Hp → Prop) (σ : St) (H : Hp), Ok K H0 G T Δ σ H → ∀ Q : VK, (∀ p vs H1, Ok K H0 G (fun F => T F ∧ RpL K F ds vs) Δ' σ H1 → H1 p = none → Q (.ref p) (upd H1 p (.lst vs))) → te σ H Q
def EvT (K : Frag) (tt : TT) (Δ : DE) (b : Bool) (Δ' : DE) : Prop := ∀ (H0 G : Hp) (T : Hp → Prop) (σ : St) (H : Hp), Ok K H0 G T Δ σ H → ∀ Q : Bool → Hp → Prop, (∀ H', Ok K H0 G T Δ' σ H' → Q b H') → tt σ H Q
def EvA (K : Frag) (ta : TA) (Δ : DE) (ds : List D) (Δ' : DE) : Prop := ∀ (H0 G : Hp) (T : Hp → Prop) (σ : St) (H : Hp), Ok K H0 G T Δ σ H → ∀ Q : List V → Hp → Prop, (∀ vs H', Ok K H0 G (fun F => T F ∧ RpL K F ds vs) Δ' σ H' → Q vs H') → ta σ H Q
def EvO (K : Frag) (to : TO) (Δ : DE) (o : Option Int) (Δ' : DE) : Prop := ∀ (H0 G : Hp) (T : Hp → Prop) (σ : St) (H : Hp), Ok K H0 G T Δ σ H → ∀ Q : Option Int → Hp → Prop, (∀ H', Ok K H0 G T Δ' σ H' → Q o H') → to σ H Q
variable {H0 G H : Hp} {T : Hp → Prop} {σ : St} {Δ Δ1 Δ2 Δ3 : DE} {ta tb te tc : TE} {tt tu : TT} {d x y : D} {ds es : List D}
theorem ok_rp {v : V} (I : Ok K H0 G T Δ σ H) (h : ∀ F, T F → Rp K F d v) : Ok K H0 G (fun F => T F ∧ Rp K F d v) Δ σ H := I.weak (mono_and I.mono mono_rp) fun F t => ⟨t, h F t⟩
theorem ok_fst {U : Hp → Prop} (m : Mono T) (I : Ok K H0 G (fun F => T F ∧ U F) Δ σ H) : Ok K H0 G T Δ σ H := I.weak m fun _ t => t.1
/-- values that are no objects -/
def D.flat : D → Option V
  | .non => some .non
  | .bl b => some (.bl b)
  | .int i => some (.int i)
  | .str s => some (.str s)
  | _ => none
theorem rp_flat {F : Hp} {v w : V} (h : Rp K F d v) (e : d.flat = some w) : v = w := by
  cases d <;> simp only [D.flat, Option.some.injEq, reduceCtorEq] at e <;> subst e <;> exact h
theorem ev_var {i : Nat} (h : Δ[i]? = some (.fr d)) : EvD K (tVar i) Δ d Δ := fun H0 G T σ H I Q q => by
  obtain ⟨F, g1, g2, t, mk, sl, _⟩ := I.open_
  obtain ⟨v, h1, h2⟩ := sl i d h
  exact ⟨v, h1, q v H (mk _ (mono_and I.mono mono_rp) ⟨t, h2⟩)⟩
theorem ev_int {i : Int} : EvD K (tC (.int i)) Δ (.int i) Δ := fun H0 G T σ H I Q q => q _ H (ok_rp I fun _ _ => rfl)
theorem ev_bl {b : Bool} : EvD K (tC (.bl b)) Δ (.bl b) Δ := fun H0 G T σ H I Q q => q _ H (ok_rp I fun _ _ => rfl)
theorem ev_non : EvD K (tC .non) Δ .non Δ := fun H0 G T σ H I Q q => q _ H (ok_rp I fun _ _ => rfl)
theorem ev_str {z : Str} : EvD K (tC (.str z)) Δ (.str z) Δ := fun H0 G T σ H I Q q => q _ H (ok_rp I fun _ _ => rfl)
theorem ev_is {d' : D} (h : EvD K te Δ d Δ1) (e : d = d') : EvD K te Δ d' Δ1 := e ▸ h
/-- two values, one behind the other -/
theorem ev_two (ha : EvD K ta Δ x Δ1) (hb : EvD K tb Δ1 y Δ2) (I : Ok K H0 G T Δ σ H) {R : V → V → Hp → Prop} (h : ∀ v w H', Ok K H0 G (fun F => (T F ∧ Rp K F x v) ∧ Rp K F y w) Δ2 σ H' → R v w H') : ta σ H fun v H1 => tb σ H1 fun w H2 => R v w H2 :=
  ha H0 G T σ H I _ fun v H1 I1 => hb H0 G _ σ H1 I1 _ fun w H2 I2 => h v w H2 I2
theorem ok_two {v w z : V} (m : Mono T) (I : Ok K H0 G (fun F => (T F ∧ Rp K F x v) ∧ Rp K F y w) Δ σ H) (h : ∀ F, Rp K F d z) : Ok K H0 G (fun F => T F ∧ Rp K F d z) Δ σ H := I.weak (mono_and m mono_rp) fun F t => ⟨t.1.1, h F⟩
/-- an operation of two flat values, its result one -/
theorem ev_op {r : R2} {v w z : V} (ha : EvD K ta Δ x Δ1) (hb : EvD K tb Δ1 y Δ2) (ex : x.flat = some v) (ey : y.flat = some w) (ez : d.flat = some z) (hr : ∀ (H : Hp) (Q : VK), Q z H → r v w H Q) : EvD K (tOp r ta tb) Δ d Δ2 := fun H0 G T σ H I Q q =>
  ev_two ha hb I fun v' w' H' I' => by
    obtain ⟨F, _, _, t, mk, _⟩ := I'.open_
    have e1 := rp_flat t.1.2 ex
    have e2 := rp_flat t.2 ey
    subst e1 e2
    refine hr H' Q (q z H' (I'.weak (mono_and I.mono mono_rp) fun F t => ⟨t.1.1, ?_⟩))
    cases d <;> simp only [D.flat, Option.some.injEq, reduceCtorEq] at ez <;> subst ez <;> rfl
theorem ev_I0 {g : Int → Int → Int} {i j : Int} (ha : EvD K ta Δ (.int i) Δ1) (hb : EvD K tb Δ1 (.int j) Δ2) : EvD K (tOp (rI0 fun i j => .int (g i j)) ta tb) Δ (.int (g i j)) Δ2 := ev_op ha hb rfl rfl rfl fun H Q q => ⟨i, j, rfl, rfl, q⟩
theorem ev_B0 {g : Int → Int → Bool} {i j : Int} (ha : EvD K ta Δ (.int i) Δ1) (hb : EvD K tb Δ1 (.int j) Δ2) : EvD K (tOp (rI0 fun i j => .bl (g i j)) ta tb) Δ (.bl (g i j)) Δ2 := ev_op ha hb rfl rfl rfl fun H Q q => ⟨i, j, rfl, rfl, q⟩
theorem ev_I {C : Int → Int → Prop} {g : Int → Int → Int} {i j : Int} (ha : EvD K ta Δ (.int i) Δ1) (hb : EvD K tb Δ1 (.int j) Δ2) (hc : C i j) : EvD K (tOp (rI C fun i j => .int (g i j)) ta tb) Δ (.int (g i j)) Δ2 := ev_op ha hb rfl rfl rfl fun H Q q => ⟨i, j, rfl, rfl, hc, q⟩
theorem ev_neg {i : Int} (ha : EvD K ta Δ (.int i) Δ1) : EvD K (tUn (rU fun i => .int (-i)) ta) Δ (.int (-i)) Δ1 := fun H0 G T σ H I Q q => ha H0 G T σ H I _ fun v H1 I1 => by
  obtain ⟨F, _, _, t, mk, _⟩ := I1.open_
  have e : v = .int i := t.2
  exact ⟨i, e, q _ H1 (I1.weak (mono_and I.mono mono_rp) fun F t => ⟨t.1, rfl⟩)⟩
theorem ev_eqI {i j : Int} (ha : EvD K ta Δ (.int i) Δ1) (hb : EvD K tb Δ1 (.int j) Δ2) : EvD K (tOp rEq ta tb) Δ (.bl (decide (i = j))) Δ2 := ev_op ha hb rfl rfl rfl fun H Q q => ⟨rfl, by
  have e : decide (V.int i = V.int j) = decide (i = j) := by by_cases h : i = j <;> simp [h]
  rw [e]; exact q⟩
theorem ev_neI {i j : Int} (ha : EvD K ta Δ (.int i) Δ1) (hb : EvD K tb Δ1 (.int j) Δ2) : EvD K (tOp rNe ta tb) Δ (.bl (!decide (i = j))) Δ2 := ev_op ha hb rfl rfl rfl fun H Q q => ⟨rfl, by
  have e : decide (V.int i = V.int j) = decide (i = j) := by by_cases h : i = j <;> simp [h]
  rw [e]; exact q⟩
theorem ev_eqS {i j : Str} (ha : EvD K ta Δ (.str i) Δ1) (hb : EvD K tb Δ1 (.str j) Δ2) : EvD K (tOp rEq ta tb) Δ (.bl (decide (i = j))) Δ2 := ev_op ha hb rfl rfl rfl fun H Q q => ⟨rfl, by
  have e : decide (V.str i = V.str j) = decide (i = j) := by by_cases h : i = j <;> simp [h]
  rw [e]; exact q⟩
theorem ev_neS {i j : Str} (ha : EvD K ta Δ (.str i) Δ1) (hb : EvD K tb Δ1 (.str j) Δ2) : EvD K (tOp rNe ta tb) Δ (.bl (!decide (i = j))) Δ2 := ev_op ha hb rfl rfl rfl fun H Q q => ⟨rfl, by
  have e : decide (V.str i = V.str j) = decide (i = j) := by by_cases h : i = j <;> simp [h]
  rw [e]; exact q⟩
def D.isNon : D → Bool
  | .non => true
  | _ => false
theorem rp_isN {F : Hp} {v : V} (h : Rp K F d v) : decide (v = .non) = d.isNon := by
  cases d with
  | non => have e : v = .non := h; subst e; rfl
  | bl b => have e : v = _ := h; subst e; rfl
  | int b => have e : v = _ := h; subst e; rfl
  | str b => have e : v = _ := h; subst e; rfl
  | tup b => obtain ⟨a, _, rfl, _⟩ := h; rfl
  | lst b => obtain ⟨a, _, rfl, _⟩ := h; rfl
  | ins C ns b => obtain ⟨a, _, _, rfl, _⟩ := h; rfl
  | scr b => obtain ⟨a, rfl, _⟩ := h; rfl
theorem ev_isN (ha : EvD K ta Δ x Δ1) : EvD K (tOp (fun x y H Q => y = .non ∧ Q (.bl (decide (x = .non))) H) ta (tC .non)) Δ (.bl x.isNon) Δ1 := fun H0 G T σ H I Q q => ha H0 G T σ H I _ fun v H1 I1 => by
  obtain ⟨F, _, _, t, mk, _⟩ := I1.open_
  refine ⟨rfl, q _ H1 (I1.weak (mono_and I.mono mono_rp) fun F t => ⟨t.1, ?_⟩)⟩
  show V.bl _ = V.bl _
  rw [rp_isN t.2]
theorem ev_notN (ha : EvD K ta Δ x Δ1) : EvD K (tOp (fun x y H Q => y = .non ∧ Q (.bl (!decide (x = .non))) H) ta (tC .non)) Δ (.bl (!x.isNon)) Δ1 := fun H0 G T σ H I Q q => ha H0 G T σ H I _ fun v H1 I1 => by
  obtain ⟨F, _, _, t, mk, _⟩ := I1.open_
  refine ⟨rfl, q _ H1 (I1.weak (mono_and I.mono mono_rp) fun F t => ⟨t.1, ?_⟩)⟩
  show V.bl _ = V.bl _
  rw [rp_isN t.2]
/-! ### arguments, displays -/
theorem ea_nil : EvA K tNil Δ [] Δ := fun H0 G T σ H I Q q => q [] H (I.weak (mono_and I.mono mono_rpL) fun F t => ⟨t, rfl⟩)
theorem ea_cons {tr : TA} (h : EvD K te Δ d Δ1) (hr : EvA K tr Δ1 ds Δ2) : EvA K (tCons te tr) Δ (d :: ds) Δ2 := fun H0 G T σ H I Q q => h H0 G T σ H I _ fun v H1 I1 => hr H0 G _ σ H1 I1 _ fun vs H2 I2 =>
  q (v :: vs) H2 (I2.weak (mono_and I.mono mono_rpL) fun F t => ⟨t.1.1, v, vs, rfl, t.1.2, t.2⟩)
theorem ea_is {ds' : List D} {t : TA} (h : EvA K t Δ ds Δ1) (e : ds = ds') : EvA K t Δ ds' Δ1 := e ▸ h
theorem ev_tup {t : TA} (h : EvA K t Δ ds Δ1) (hl : ds.length ≤ 100000) : EvD K (tTup t) Δ (.tup ds) Δ1 := fun H0 G T σ H I Q q => h H0 G T σ H I _ fun vs H1 I1 => by
  obtain ⟨F, _, _, t, _⟩ := I1.open_
  refine ⟨by rw [t.2.length]; exact Evl.sz_of hl, fun p hp => q _ _ (I1.new hp (mono_and I.mono mono_rp) fun F F' t e k => ⟨I.mono _ _ e t.1, p, vs, rfl, Evl.st_of k, t.2.ex e⟩)⟩
theorem el_lst {t : TA} (h : EvA K t Δ ds Δ1) (hl : ds.length ≤ 100000) : EvL K (tLst t) Δ ds Δ1 := fun H0 G T σ H I Q q => h H0 G T σ H I _ fun vs H1 I1 => by
  obtain ⟨F, _, _, t, _⟩ := I1.open_
  exact ⟨by rw [t.2.length]; exact Evl.sz_of hl, fun p hp => q p vs H1 I1 hp⟩
theorem ev_l (h : EvL K te Δ ds Δ1) : EvD K te Δ (.lst ds) Δ1 := fun H0 G T σ H I Q q => h H0 G T σ H I _ fun p vs H1 I1 hp =>
  q _ _ (I1.new hp (mono_and I.mono mono_rp) fun F F' t e k => ⟨I.mono _ _ e t.1, p, vs, rfl, k, t.2.ex e⟩)
theorem el_is {ds' : List D} (h : EvL K te Δ ds Δ1) (e : ds = ds') : EvL K te Δ ds' Δ1 := e ▸ h
/-! ### sequences -/
def D.items : D → Option (List D)
  | .tup xs => some xs
  | .lst xs => some xs
  | .scr ns => some (ns.map D.int)
  | _ => none
theorem rp_items {F : Hp} {v : V} (h : Rp K F d v) (e : d.items = some ds) : ∃ a vs, v = .ref a ∧ (SqL K F a vs ∨ SqT K F a vs) ∧ RpL K F ds vs := by
  cases d with
  | tup xs => cases e; obtain ⟨a, vs, h1, h2, h3⟩ := h; exact ⟨a, vs, h1, .inr h2, h3⟩
  | lst xs => cases e; obtain ⟨a, vs, h1, h2, h3⟩ := h; exact ⟨a, vs, h1, .inl (Evl.sq_of h2), h3⟩
  | scr ns => cases e; obtain ⟨a, h1, h2⟩ := h; exact ⟨a, _, h1, .inl h2, RpL.ints.mpr rfl⟩
  | _ => cases e
theorem atI_rp {F : Hp} {vs : List V} {i : Int} (h : RpL K F ds vs) (e : atI ds i = some d) : ∃ v, atI vs i = some v ∧ Rp K F d v := by
  unfold atI at e ⊢
  rw [h.length]
  cases q : ixN ds.length i with
  | none => rw [q] at e; cases e
  | some j => rw [q] at e; exact h.get e
/-- xs[i] -/
theorem ev_ix {i : Int} (ha : EvD K ta Δ x Δ1) (hb : EvD K tb Δ1 (.int i) Δ2) (hx : x.items = some ds) (he : atI ds i = some d) : EvD K (tOp (rIx K) ta tb) Δ d Δ2 := fun H0 G T σ H I Q q => ev_two ha hb I fun v w H' I' => by
  obtain ⟨F, g1, g2, t, mk, _⟩ := I'.open_
  obtain ⟨a, vs, rfl, h2, h3⟩ := rp_items t.1.2 hx
  obtain ⟨z, h4, h5⟩ := atI_rp h3 he
  have e2 : w = .int i := t.2
  have fin : Q z H' := q z H' (mk _ (mono_and I.mono mono_rp) ⟨t.1.1, h5⟩)
  rcases h2 with h2 | h2
  · exact .inl ⟨a, vs, i, z, rfl, e2, Evl.ex_l g2 h2, h4, fin⟩
  · exact .inr (.inl ⟨a, vs, i, z, rfl, e2, Evl.ex_t g2 h2, h4, fin⟩)
/-- xs[i], xs one's own -/
theorem ev_ixO {k : Nat} {t : Option Addr} {i : Int} (hk : ∃ s, Δ[k]? = some s ∧ s.own = true) (hb : EvD K tb Δ (.int i) Δ1) (h1 : Δ1[k]? = some (.ow t ds)) (he : atI ds i = some d) : EvD K (tOp (rIx K) (tVar k) tb) Δ d Δ1 := fun H0 G T σ H I Q q => by
  obtain ⟨ad, J⟩ := id I
  obtain ⟨s, hs, ho⟩ := hk
  have hv := (J.sl k s hs).ref ho
  refine ⟨_, hv, hb H0 G T σ H I _ fun w H1 I1 => ?_⟩
  obtain ⟨F, g1, g2, t, mk, _, ow, _⟩ := I1.open_
  obtain ⟨p, vs, _, w1, w2, w3, _⟩ := ow k _ _ h1
  rw [hv] at w1
  injection w1 with w1; injection w1 with w1; injection w1 with w1
  obtain ⟨z, h4, h5⟩ := atI_rp w3 he
  have e2 : w = .int i := t.2
  refine .inl ⟨_, vs, i, z, rfl, e2, Evl.sq_of (by rw [w1]; exact w2), h4, q z H1 (mk _ (mono_and I.mono mono_rp) ⟨t.1, h5⟩)⟩
/-- len(xs) -/
def rLenA (K : Frag) : List V → Hp → VK → Prop := fun xs H Q => ∃ p ys, xs = [.ref p] ∧ (SqL K H p ys ∨ SqT K H p ys) ∧ Q (.int ys.length) H
theorem ev_len (ha : EvD K ta Δ x Δ1) (hx : x.items = some ds) : EvD K (tCB (rLenA K) (tCons ta tNil)) Δ (.int ds.length) Δ1 := fun H0 G T σ H I Q q => ha H0 G T σ H I _ fun v H1 I1 => by
  obtain ⟨F, g1, g2, t, mk, _⟩ := I1.open_
  obtain ⟨a, vs, rfl, h2, h3⟩ := rp_items t.2 hx
  refine ⟨a, vs, rfl, h2.elim (fun z => .inl (Evl.ex_l g2 z)) fun z => .inr (Evl.ex_t g2 z), ?_⟩
  rw [h3.length]
  exact q _ H1 (I1.weak (mono_and I.mono mono_rp) fun F t => ⟨t.1, rfl⟩)
theorem ev_lenO {k : Nat} {t : Option Addr} (h1 : Δ[k]? = some (.ow t ds)) : EvD K (tCB (rLenA K) (tCons (tVar k) tNil)) Δ (.int ds.length) Δ := fun H0 G T σ H I Q q => by
  obtain ⟨F, g1, g2, t, mk, _, ow, _⟩ := I.open_
  obtain ⟨p, vs, _, w1, w2, w3, _⟩ := ow k _ _ h1
  refine ⟨_, w1, p, vs, rfl, .inl (Evl.sq_of w2), ?_⟩
  rw [w3.length]
  exact q _ H (I.weak (mono_and I.mono mono_rp) fun F t => ⟨t, rfl⟩)
/-- list(xs) -/
def rListA (K : Frag) : List V → Hp → VK → Prop := fun xs H Q => ∃ p ys, xs = [.ref p] ∧ (SqL K H p ys ∨ SqT K H p ys) ∧ ∀ l, H l = none → Q (.ref l) (upd H l (.lst ys))
theorem el_list (ha : EvD K ta Δ x Δ1) (hx : x.items = some ds) : EvL K (tCB (rListA K) (tCons ta tNil)) Δ ds Δ1 := fun H0 G T σ H I Q q => ha H0 G T σ H I _ fun v H1 I1 => by
  obtain ⟨F, g1, g2, t, mk, _⟩ := I1.open_
  obtain ⟨a, vs, rfl, h2, h3⟩ := rp_items t.2 hx
  exact ⟨a, vs, rfl, h2.elim (fun z => .inl (Evl.ex_l g2 z)) fun z => .inr (Evl.ex_t g2 z), fun l hl => q l vs H1 (mk _ (mono_and I.mono mono_rpL) ⟨t.1, h3⟩) hl⟩
theorem el_listO {k : Nat} {t : Option Addr} (h1 : Δ[k]? = some (.ow t ds)) : EvL K (tCB (rListA K) (tCons (tVar k) tNil)) Δ ds Δ := fun H0 G T σ H I Q q => by
  obtain ⟨F, g1, g2, t, mk, _, ow, _⟩ := I.open_
  obtain ⟨p, vs, _, w1, w2, w3, _⟩ := ow k _ _ h1
  exact ⟨_, w1, p, vs, rfl, .inl (Evl.sq_of w2), fun l hl => q l vs H (mk _ (mono_and I.mono mono_rpL) ⟨t, w3⟩) hl⟩
/-- tuple(xs) -/
def rTupA (K : Frag) : List V → Hp → VK → Prop := fun xs H Q => ∃ p ys, xs = [.ref p] ∧ ((SqL K H p ys ∧ ∀ l, H l = none → Q (.ref l) (upd H l (.tup ys))) ∨ (SqT K H p ys ∧ Q (.ref p) H))
theorem ev_tupleL (ha : EvD K ta Δ (.lst ds) Δ1) : EvD K (tCB (rTupA K) (tCons ta tNil)) Δ (.tup ds) Δ1 := fun H0 G T σ H I Q q => ha H0 G T σ H I _ fun v H1 I1 => by
  obtain ⟨F, g1, g2, t, mk, _⟩ := I1.open_
  obtain ⟨a, vs, rfl, h2, h3⟩ := t.2
  refine ⟨a, vs, rfl, .inl ⟨Evl.sq_of (g2 _ _ h2), fun l hl => q _ _ ((mk _ (mono_and I.mono mono_rpL) ⟨t.1, h3⟩).new hl (mono_and I.mono mono_rp) fun F F' t e k => ⟨I.mono _ _ e t.1, l, vs, rfl, Evl.st_of k, t.2.ex e⟩)⟩⟩
theorem ev_tupleT (ha : EvD K ta Δ (.tup ds) Δ1) : EvD K (tCB (rTupA K) (tCons ta tNil)) Δ (.tup ds) Δ1 := fun H0 G T σ H I Q q => ha H0 G T σ H I _ fun v H1 I1 => by
  obtain ⟨F, g1, g2, t, mk, _⟩ := I1.open_
  obtain ⟨a, vs, rfl, h2, h3⟩ := t.2
  exact ⟨a, vs, rfl, .inr ⟨Evl.ex_t g2 h2, q _ H1 (mk _ (mono_and I.mono mono_rp) ⟨t.1, a, vs, rfl, h2, h3⟩)⟩⟩
/-- parts of a slice -/
theorem eo_none : EvO K tNoPart Δ none Δ := fun H0 G T σ H I Q q => q H I
theorem eo_some {i : Int} (h : EvD K te Δ (.int i) Δ1) : EvO K (tPart te) Δ (some i) Δ1 := fun H0 G T σ H I Q q => h H0 G T σ H I _ fun v H1 I1 => by
  obtain ⟨F, _, _, t, _⟩ := I1.open_
  exact ⟨i, t.2, q H1 (I1.weak I.mono fun F t => t.1)⟩
def cutD (ds : List D) (lo hi : Option Int) : List D := (ds.drop (HT.sIx ds.length 0 lo)).take (HT.sIx ds.length ds.length hi - HT.sIx ds.length 0 lo)
theorem cut_rp {F : Hp} {vs : List V} {lo hi : Option Int} (h : RpL K F ds vs) : RpL K F (cutD ds lo hi) (cutV vs lo hi) := by
  unfold cutD cutV
  rw [h.length]
  exact (h.drop _).take _
def rSlAny (K : Frag) : V → Option Int → Option Int → Hp → VK → Prop := fun x lo hi H Q => rSlL K x lo hi H Q ∨ rSlA K x lo hi H Q
/-- xs[lo:hi] of a list -/
theorem el_sl {tl th : TO} {lo hi : Option Int} (ha : EvD K ta Δ (.lst ds) Δ1) (hl : EvO K tl Δ1 lo Δ2) (hh : EvO K th Δ2 hi Δ3) : EvL K (tSl (rSlAny K) ta tl th) Δ (cutD ds lo hi) Δ3 := fun H0 G T σ H I Q q => ha H0 G T σ H I _ fun v H1 I1 => hl H0 G _ σ H1 I1 _ fun H2 I2 => hh H0 G _ σ H2 I2 _ fun H3 I3 => by
  obtain ⟨F, g1, g2, t, mk, _⟩ := I3.open_
  obtain ⟨a, vs, rfl, h2, h3⟩ := t.2
  exact .inl ⟨a, vs, rfl, Evl.sq_of (g2 _ _ h2), fun p hp => q p _ H3 (mk _ (mono_and I.mono mono_rpL) ⟨t.1, cut_rp h3⟩) hp⟩
theorem el_slS {ns : List Int} {tl th : TO} {lo hi : Option Int} (ha : EvD K ta Δ (.scr ns) Δ1) (hl : EvO K tl Δ1 lo Δ2) (hh : EvO K th Δ2 hi Δ3) : EvL K (tSl (rSlAny K) ta tl th) Δ (cutD (ns.map D.int) lo hi) Δ3 := fun H0 G T σ H I Q q => ha H0 G T σ H I _ fun v H1 I1 => hl H0 G _ σ H1 I1 _ fun H2 I2 => hh H0 G _ σ H2 I2 _ fun H3 I3 => by
  obtain ⟨F, g1, g2, t, mk, _⟩ := I3.open_
  obtain ⟨a, rfl, h2⟩ := t.2
  exact .inl ⟨a, _, rfl, Evl.ex_l g2 h2, fun p hp => q p _ H3 (mk _ (mono_and I.mono mono_rpL) ⟨t.1, cut_rp (RpL.ints.mpr rfl)⟩) hp⟩
theorem el_slO {k : Nat} {t : Option Addr} {tl th : TO} {lo hi : Option Int} (hk : ∃ s, Δ[k]? = some s ∧ s.own = true) (hl : EvO K tl Δ lo Δ2) (hh : EvO K th Δ2 hi Δ3) (h1 : Δ3[k]? = some (.ow t ds)) : EvL K (tSl (rSlAny K) (tVar k) tl th) Δ (cutD ds lo hi) Δ3 := fun H0 G T σ H I Q q => by
  obtain ⟨ad, J⟩ := id I
  obtain ⟨s, hs, ho⟩ := hk
  have hv := (J.sl k s hs).ref ho
  refine ⟨_, hv, hl H0 G T σ H I _ fun H2 I2 => hh H0 G T σ H2 I2 _ fun H3 I3 => ?_⟩
  obtain ⟨F, g1, g2, t, mk, _, ow, _⟩ := I3.open_
  obtain ⟨p, vs, _, w1, w2, w3, _⟩ := ow k _ _ h1
  rw [hv] at w1
  injection w1 with w1; injection w1 with w1; injection w1 with w1
  exact .inl ⟨_, vs, rfl, Evl.sq_of (by rw [w1]; exact w2), fun p hp => q p _ H3 (mk _ (mono_and I.mono mono_rpL) ⟨t, cut_rp w3⟩) hp⟩

theorem cutD_whole {lo hi : Option Int} (h : HT.sIx ds.length 0 lo = 0 ∧ HT.sIx ds.length ds.length hi = ds.length) : cutD ds lo hi = ds := by
  unfold cutD; rw [h.1, h.2]; simp
/-- t[lo:hi] of a tuple -/
theorem ev_slT {tl th : TO} {lo hi : Option Int} (ha : EvD K ta Δ (.tup ds) Δ1) (hl : EvO K tl Δ1 lo Δ2) (hh : EvO K th Δ2 hi Δ3) : EvD K (tSl (rSlAny K) ta tl th) Δ (.tup (cutD ds lo hi)) Δ3 := fun H0 G T σ H I Q q => ha H0 G T σ H I _ fun v H1 I1 => hl H0 G _ σ H1 I1 _ fun H2 I2 => hh H0 G _ σ H2 I2 _ fun H3 I3 => by
  obtain ⟨F, g1, g2, t, mk, _⟩ := I3.open_
  obtain ⟨a, vs, rfl, h2, h3⟩ := t.2
  refine .inr ⟨a, vs, rfl, Evl.ex_t g2 h2, fun hw => ?_, fun hw p hp => ?_⟩
  · rw [h3.length] at hw
    refine q _ H3 (mk _ (mono_and I.mono mono_rp) ⟨t.1, a, vs, rfl, h2, ?_⟩)
    rw [cutD_whole hw]; exact h3
  · exact q _ _ ((mk _ (mono_and I.mono mono_rpL) ⟨t.1, cut_rp (lo := lo) (hi := hi) h3⟩).new hp (mono_and I.mono mono_rp) fun F F' t e k => ⟨I.mono _ _ e t.1, p, _, rfl, Evl.st_of k, t.2.ex e⟩)
/-- xs + ys of lists -/
theorem el_cat (ha : EvD K ta Δ (.lst ds) Δ1) (hb : EvD K tb Δ1 (.lst es) Δ2) (hl : ds.length + es.length ≤ 100000) : EvL K (tOp rCat ta tb) Δ (ds ++ es) Δ2 := fun H0 G T σ H I Q q => ev_two ha hb I fun v w H' I' => by
  obtain ⟨F, g1, g2, t, mk, _⟩ := I'.open_
  obtain ⟨a, vs, rfl, h2, h3⟩ := t.1.2
  obtain ⟨b, ws, rfl, k2, k3⟩ := t.2
  exact ⟨a, b, vs, ws, rfl, rfl, g2 _ _ h2, g2 _ _ k2, by rw [h3.length, k3.length]; exact Evl.sz_of hl, fun p hp => q p _ H' (mk _ (mono_and I.mono mono_rpL) ⟨t.1.1, h3.append k3⟩) hp⟩
/-- t + u of tuples -/
theorem ev_catT (ha : EvD K ta Δ (.tup ds) Δ1) (hb : EvD K tb Δ1 (.tup es) Δ2) (hl : ds.length + es.length ≤ 100000) : EvD K (tOp (rCatA K) ta tb) Δ (.tup (ds ++ es)) Δ2 := fun H0 G T σ H I Q q => ev_two ha hb I fun v w H' I' => by
  obtain ⟨F, g1, g2, t, mk, _⟩ := I'.open_
  obtain ⟨a, vs, rfl, h2, h3⟩ := t.1.2
  obtain ⟨b, ws, rfl, k2, k3⟩ := t.2
  refine ⟨a, b, vs, ws, rfl, rfl, Evl.ex_t g2 h2, Evl.ex_t g2 k2, by rw [h3.length, k3.length]; exact Evl.sz_of hl, fun e => ?_, fun _ e => ?_, fun _ _ p hp => ?_⟩
  · subst e
    have e2 : ds = [] := by have := h3.length; cases ds with | nil => rfl | cons _ _ => simp at this
    subst e2
    exact q _ H' (mk _ (mono_and I.mono mono_rp) ⟨t.1.1, b, ws, rfl, k2, k3⟩)
  · subst e
    have e2 : es = [] := by have := k3.length; cases es with | nil => rfl | cons _ _ => simp at this
    subst e2
    refine q _ H' (mk _ (mono_and I.mono mono_rp) ⟨t.1.1, a, vs, rfl, h2, ?_⟩)
    rw [List.append_nil]; exact h3
  · exact q _ _ ((mk _ (mono_and I.mono mono_rpL) ⟨t.1.1, h3.append k3⟩).new hp (mono_and I.mono mono_rp) fun F F' t e k => ⟨I.mono _ _ e t.1, p, _, rfl, Evl.st_of k, t.2.ex e⟩)
/-- xs * k -/
theorem el_rep {k : Int} (ha : EvD K ta Δ (.lst ds) Δ1) (hb : EvD K tb Δ1 (.int k) Δ2) (h0 : -100000 ≤ k) (h1 : k ≤ 100000) (hl : ds.length * k.toNat ≤ 100000) : EvL K (tOp rRep ta tb) Δ (List.replicate k.toNat ds).flatten Δ2 := fun H0 G T σ H I Q q => ev_two ha hb I fun v w H' I' => by
  obtain ⟨F, g1, g2, t, mk, _⟩ := I'.open_
  obtain ⟨a, vs, rfl, h2, h3⟩ := t.1.2
  have e : w = .int k := t.2
  exact ⟨a, k, vs, rfl, e, g2 _ _ h2, by omega, by omega, by rw [h3.length]; exact Evl.sz_of hl, fun p hp => q p _ H' (mk _ (mono_and I.mono mono_rpL) ⟨t.1.1, h3.rep _⟩) hp⟩
/-! ### tests -/
theorem et_test {b : Bool} (h : EvD K te Δ (.bl b) Δ1) : EvT K (tTest te) Δ b Δ1 := fun H0 G T σ H I Q q => h H0 G T σ H I _ fun v H1 I1 => by
  obtain ⟨F, _, _, t, _⟩ := I1.open_
  exact ⟨b, t.2, q H1 (ok_fst I.mono I1)⟩
theorem et_B {b : Bool} (h : EvD K te Δ (.bl b) Δ1) : EvT K (tB te) Δ b Δ1 := fun H0 G T σ H I Q q => h H0 G T σ H I _ fun v H1 I1 => by
  obtain ⟨F, _, _, t, _⟩ := I1.open_
  exact ⟨b, t.2, q H1 (ok_fst I.mono I1)⟩
theorem et_is {b b' : Bool} (h : EvT K tt Δ b Δ1) (e : b = b') : EvT K tt Δ b' Δ1 := e ▸ h
theorem et_and {a b : Bool} (h1 : EvT K tt Δ a Δ1) (h2 : a = true → EvT K tu Δ1 b Δ2) (h3 : a = false → Δ2 = Δ1) : EvT K (tAnd tt tu) Δ (a && b) Δ2 := fun H0 G T σ H I Q q => h1 H0 G T σ H I _ fun H1 I1 => by
  cases a with
  | true => exact iteT (h2 rfl H0 G T σ H1 I1 _ fun H2 I2 => q H2 I2)
  | false => rw [h3 rfl] at q; exact iteF (q H1 I1)
theorem et_or {a b : Bool} (h1 : EvT K tt Δ a Δ1) (h2 : a = false → EvT K tu Δ1 b Δ2) (h3 : a = true → Δ2 = Δ1) : EvT K (tOr tt tu) Δ (a || b) Δ2 := fun H0 G T σ H I Q q => h1 H0 G T σ H I _ fun H1 I1 => by
  cases a with
  | false => exact iteF (h2 rfl H0 G T σ H1 I1 _ fun H2 I2 => q H2 I2)
  | true => rw [h3 rfl] at q; exact iteT (q H1 I1)
/-- the same where nothing is changed -/
theorem et_and' {a b : Bool} (h1 : EvT K tt Δ a Δ) (h2 : a = true → EvT K tu Δ b Δ) : EvT K (tAnd tt tu) Δ (a && b) Δ := et_and h1 h2 fun _ => rfl
theorem et_or' {a b : Bool} (h1 : EvT K tt Δ a Δ) (h2 : a = false → EvT K tu Δ b Δ) : EvT K (tOr tt tu) Δ (a || b) Δ := et_or h1 h2 fun _ => rfl
theorem et_not {a : Bool} (h1 : EvT K tt Δ a Δ1) : EvT K (tNot tt) Δ (!a) Δ1 := fun H0 G T σ H I Q q => h1 H0 G T σ H I _ fun H1 I1 => q H1 I1
theorem et_yes : EvT K tYes Δ true Δ := fun H0 G T σ H I Q q => q H I
theorem ev_andV {a b : Bool} (h1 : EvD K ta Δ (.bl a) Δ) (h2 : a = true → EvD K tb Δ (.bl b) Δ) : EvD K (tAndV ta tb) Δ (.bl (a && b)) Δ := fun H0 G T σ H I Q q => h1 H0 G T σ H I _ fun v H1 I1 => by
  obtain ⟨F, _, _, t, _⟩ := I1.open_
  refine ⟨a, t.2, ?_⟩
  cases a with
  | true => exact iteT (h2 rfl H0 G T σ H1 (ok_fst I.mono I1) _ fun v H2 I2 => q v H2 I2)
  | false => exact iteF (q _ H1 (I1.weak (mono_and I.mono mono_rp) fun F t => ⟨t.1, rfl⟩))
theorem ev_orV {a b : Bool} (h1 : EvD K ta Δ (.bl a) Δ) (h2 : a = false → EvD K tb Δ (.bl b) Δ) : EvD K (tOrV ta tb) Δ (.bl (a || b)) Δ := fun H0 G T σ H I Q q => h1 H0 G T σ H I _ fun v H1 I1 => by
  obtain ⟨F, _, _, t, _⟩ := I1.open_
  refine ⟨a, t.2, ?_⟩
  cases a with
  | false => exact iteF (h2 rfl H0 G T σ H1 (ok_fst I.mono I1) _ fun v H2 I2 => q v H2 I2)
  | true => exact iteT (q _ H1 (I1.weak (mono_and I.mono mono_rp) fun F t => ⟨t.1, rfl⟩))
theorem ev_notV {a : Bool} (h1 : EvD K ta Δ (.bl a) Δ1) : EvD K (tNotV ta) Δ (.bl (!a)) Δ1 := fun H0 G T σ H I Q q => h1 H0 G T σ H I _ fun v H1 I1 => by
  obtain ⟨F, _, _, t, _⟩ := I1.open_
  exact ⟨a, t.2, q _ H1 (I1.weak (mono_and I.mono mono_rp) fun F t => ⟨t.1, rfl⟩)⟩
theorem ev_if {b : Bool} (h : EvT K tt Δ b Δ1) (h1 : b = true → EvD K ta Δ1 d Δ2) (h2 : b = false → EvD K tb Δ1 d Δ2) : EvD K (tIf tt ta tb) Δ d Δ2 := fun H0 G T σ H I Q q => h H0 G T σ H I _ fun H1 I1 => by
  cases b with
  | true => exact iteT (h1 rfl H0 G T σ H1 I1 _ q)
  | false => exact iteF (h2 rfl H0 G T σ H1 I1 _ q)
/-! ### fields -/
theorem ev_fld {C : Addr} {ns : List Str} {f : Str} (ha : EvD K ta Δ (.ins C ns ds) Δ1) (hc : Cls K C) (hn : NoAttr K C f) (hf : (ns.zip ds).lookup f = some d) : EvD K (tFld K ta f) Δ d Δ1 := fun H0 G T σ H I Q q => ha H0 G T σ H I _ fun v H1 I1 => by
  obtain ⟨F, g1, g2, t, mk, _⟩ := I1.open_
  obtain ⟨a, dx, vs, rfl, h2, h3, h4⟩ := t.2
  obtain ⟨z, k1, k2⟩ := h4.lookup hf
  exact ⟨a, C, dx, _, z, rfl, g2 _ _ h2, hc, hn, k1, q z H1 (mk _ (mono_and I.mono mono_rp) ⟨t.1, k2⟩)⟩
theorem ev_fldO {k : Nat} {x C : Addr} {ns : List Str} {f : Str} (h1 : Δ[k]? = some (.oi x C ns ds)) (hc : Cls K C) (hn : NoAttr K C f) (hf : (ns.zip ds).lookup f = some d) : EvD K (tFld K (tVar k) f) Δ d Δ := fun H0 G T σ H I Q q => by
  obtain ⟨F, g1, g2, t, mk, _, _, oi, _⟩ := I.open_
  obtain ⟨dx, vs, w1, w2, w3, w4, _⟩ := oi k _ _ _ _ h1
  obtain ⟨z, k1, k2⟩ := w4.lookup hf
  exact ⟨_, w1, x, C, dx, _, z, rfl, w2, hc, hn, k1, q z H (mk _ (mono_and I.mono mono_rp) ⟨t, k2⟩)⟩
/-! ### promises by data -/
/-- what a callee may leave behind: what was seen stands, new things besides -/
def Left (G H F H' : Hp) : Prop := Ex G F ∧ Ex F H' ∧ Ex H H' ∧ ∀ a, H a ≠ none → G a = none → F a = none
def spD (K : Frag) (n : Nat) (R : List D → D → Prop) : Sp := fun vs H Q _ => vs.length = n ∧ ∃ (G : Hp) (ds : List D) (d : D), Ex G H ∧ RpL K G ds vs ∧ R ds d ∧ ∀ v H' F, Left G H F H' → Rp K F d v → Q v H'
/-- the first argument a list that the def changes -/
def spM (K : Frag) (n : Nat) (R : List D → List D → D → List D → Prop) : Sp := fun vs H Q _ => vs.length = n + 1 ∧ ∃ (p : Addr) (vs' ws : List V) (G : Hp) (xs ds : List D) (d : D) (xs' : List D), vs = .ref p :: vs' ∧ H p = some (.lst ws) ∧ G p = none ∧ Ex G H ∧ RpL K G xs ws ∧ RpL K G ds vs' ∧ R xs ds d xs' ∧
  ∀ v H' F ws', Ex G F → Ex F H' → (∀ a o, a ≠ p → H a = some o → H' a = some o) → (∀ a, H a ≠ none → G a = none → F a = none) → H' p = some (.lst ws') → RpL K F xs' ws' → Rp K F d v → Q v H'
/-- __init__ -/
def spI (K : Frag) (C : Addr) (n : Nat) (R : List D → List Str → List D → Prop) : Sp := fun vs H Q _ => vs.length = n + 1 ∧ ∃ (x dx : Addr) (vs' : List V) (G : Hp) (ds : List D) (ns : List Str) (xs : List D), vs = .ref x :: vs' ∧ H x = some (.ins C dx []) ∧ G x = none ∧ Ex G H ∧ RpL K G ds vs' ∧ R ds ns xs ∧
  ∀ H' F ws dx', Ex G F → Ex F H' → (∀ a o, a ≠ x → H a = some o → H' a = some o) → (∀ a, H a ≠ none → G a = none → F a = none) → H' x = some (.ins C dx' (ns.zip ws)) → ns.length = xs.length → RpL K F xs ws → Q .non H'
/-- the caller behind a callee's end -/
theorem OkA.left {ad : Nat → Addr} {F H' : Hp} {U : Hp → Prop} (I : OkA K H0 G ad T Δ σ H) (l : Left (vis Δ ad H0 G H) H F H') (m : Mono U) (h : T F → U F) : OkA K H0 G ad U Δ σ H' := by
  obtain ⟨l1, l2, l3, l4⟩ := l
  have e : Ex F (vis Δ ad H0 G H') := fun a o q => by
    rw [vis_no]
    · exact l2 _ _ q
    · intro z
      have := l4 a (I.hid_some z) (vis_hid z)
      rw [q] at this; cases this
  exact (I.grow l3).to m (m _ _ e (h (I.mono _ _ l1 I.tmp)))
theorem ev_call {R : List D → D → Prop} {n : Nat} {dvs : List V} {dds : List D} {E : XK} {t : TA} (h : EvA K t Δ ds Δ1) (hd : ∀ F, RpL K F dds dvs) (hn : ds.length + dds.length = n) (hR : R (ds ++ dds) d) : EvD K (tCall (spD K n R) dvs E t) Δ d Δ1 := fun H0 G T σ H I Q q => h H0 G T σ H I _ fun vs H1 I1 => by
  obtain ⟨ad, J⟩ := I1
  refine ⟨by rw [List.length_append, J.tmp.2.length, (hd G).length]; exact hn, vis Δ1 ad H0 G H1, ds ++ dds, d, vis_sub, J.tmp.2.append (hd _), hR, fun v H' F l r => q v H' ⟨ad, ?_⟩⟩
  exact J.left l (mono_and I.mono mono_rp) fun t => ⟨t.1, r⟩
end
end DL

set_option Elab.async false
set_option linter.all false
set_option maxRecDepth 100000
set_option maxHeartbeats 1000000
namespace DL
open PySem L2
section
variable {K : Frag} {H0 G H : Hp} {T : Hp → Prop} {σ : St} {Δ Δ1 Δ2 Δ3 : DE} {ta tb te tc : TE} {tt tu : TT} {d x y : D} {ds es : List D}
/-- a heap without one address -/
def lessAt (H : Hp) (p : Addr) : Hp := fun a => if a = p then none else H a
theorem lessAt_at {H : Hp} {p : Addr} : lessAt H p p = none := by unfold lessAt; rw [if_pos rfl]
theorem lessAt_ne {H : Hp} {p a : Addr} (h : a ≠ p) : lessAt H p a = H a := by unfold lessAt; rw [if_neg h]
theorem lessAt_ex {H : Hp} {p : Addr} : Ex (lessAt H p) H := fun a o h => by
  by_cases e : a = p
  · subst e; rw [lessAt_at] at h; cases h
  · rw [lessAt_ne e] at h; exact h
/-- a call that changes a list of one's own -/
theorem ev_callM {R : List D → List D → D → List D → Prop} {n k : Nat} {tg : Option Addr} {xs xs' : List D} {E : XK} {t : TA} (hk : ∃ s, Δ[k]? = some s ∧ s.own = true) (h : EvA K t Δ ds Δ1) (h1 : Δ1[k]? = some (.ow tg xs)) (hn : ds.length = n) (hR : R xs ds d xs') :
    EvD K (tCall (spM K n R) [] E (tCons (tVar k) t)) Δ d (Δ1.set k (.ow tg xs')) := fun H0 G T σ H I Q q => by
  obtain ⟨ad0, J0⟩ := id I
  obtain ⟨s, hs, ho⟩ := hk
  have hv := (J0.sl k s hs).ref ho
  refine ⟨_, hv, h H0 G T σ H I _ fun vs H1 I1 => ?_⟩
  obtain ⟨ad, J⟩ := id I1
  obtain ⟨w0, w1, ws, w2, w3⟩ := J.sl k _ h1
  rw [hv] at w1
  injection w1 with w1; injection w1 with w1; injection w1 with w1
  rw [w1] at hv ⊢
  refine ⟨by simp only [List.append_nil, List.length_cons, J.tmp.2.length, hn], ad k, vs, ws, vis Δ1 ad H0 G H1, xs, ds, d, xs', by rw [List.append_nil], w2, vis_hid (.inl ⟨k, _, h1, rfl, rfl⟩), vis_sub, w3, J.tmp.2, hR, ?_⟩
  intro v H' F ws' e1 e2 e3 e4 e5 e6 e7
  -- the heap with the old list in its place is a grown one
  refine q v H' ?_
  have hid_some : ∀ a, Hid Δ1 ad H0 G a → H1 a ≠ none := fun a z => J.hid_some z
  have ow : ∀ (i : Nat) (s : Sl), (Δ1.set k (.ow tg xs'))[i]? = some s → s.own = true → ∃ s' : Sl, Δ1[i]? = some s' ∧ s'.own = true := fun i s h1' h2 => by
    rcases set_get h1' with ⟨rfl, _⟩ | ⟨z, q⟩
    · exact ⟨_, h1, rfl⟩
    · exact ⟨s, q, h2⟩
  have eF : Ex F (vis (Δ1.set k (.ow tg xs')) ad H0 G H') := fun a o z => by
    rw [vis_no]
    · exact e2 _ _ z
    · intro hh
      have hh1 : Hid Δ1 ad H0 G a := by
        rcases hh with ⟨i, s, b1, b2, b3⟩ | hf
        · obtain ⟨s', b4, b5⟩ := ow i s b1 b2
          exact .inl ⟨i, s', b4, b5, b3⟩
        · exact .inr hf
      have := e4 a (hid_some a hh1) (vis_hid hh1)
      rw [z] at this; cases this
  have eV : Ex (vis Δ1 ad H0 G H1) (vis (Δ1.set k (.ow tg xs')) ad H0 G H') := fun a o z => eF _ _ (e1 _ _ z)
  have h00 : H0 (ad k) = none := J.fr0 k _ h1 rfl
  refine ⟨ad, fun a o z => ?_, J.sub, fun i s b1 b2 => ?_, fun i l s u b1 b2 b3 b4 b5 => ?_, by simp [J.len], fun i s b1 => ?_, mono_and I.mono mono_rp, ⟨I.mono _ _ eV J.tmp.1, e7.ex eF⟩⟩
  · exact e3 a o (by rintro rfl; rw [h00] at z; cases z) (J.ext _ _ z)
  · obtain ⟨s', b4, b5⟩ := ow i s b1 b2
    exact J.fr0 i s' b4 b5
  · obtain ⟨s', b6, b7⟩ := ow i s b1 b2
    obtain ⟨u', b8, b9⟩ := ow l u b3 b4
    exact J.inj i l s' u' b6 b7 b8 b9 b5
  · rcases set_get b1 with ⟨rfl, rfl⟩ | ⟨z, q1⟩
    · exact ⟨w0, by rw [hv], ws', e5, e6.ex eF⟩
    · by_cases o : s.own = true
      · have hne : ad i ≠ ad k := fun w => z (J.inj i k s _ q1 o h1 rfl w)
        have := J.sl i s q1
        cases s with
        | un => cases o
        | fr d => cases o
        | ow t ds => obtain ⟨b0, b1, ws, b2, b3⟩ := this; exact ⟨b0, b1, ws, e3 _ _ hne b2, b3.ex eV⟩
        | oi t C ns ds => obtain ⟨b0, b1, dx, ws, b2, b3, b4⟩ := this; exact ⟨b0, b1, dx, ws, e3 _ _ hne b2, b3, b4.ex eV⟩
        | od kvs => exact ⟨this.1, e3 _ _ hne this.2⟩
      · have := J.sl i s q1
        cases s with
        | un => exact this
        | fr d => obtain ⟨v, b1, b2⟩ := this; exact ⟨v, b1, b2.ex eV⟩
        | ow t ds => exact absurd rfl o
        | oi t C ns ds => exact absurd rfl o
        | od kvs => exact absurd rfl o
/-- o.m(..) -/
theorem ev_meth {R : List D → D → Prop} {n : Nat} {C : Addr} {ns : List Str} {xs : List D} {m : Str} {dvs : List V} {dds : List D} {E : XK} {t : TA} (ha : EvD K ta Δ (.ins C ns xs) Δ1) (hm : (ns.zip xs).lookup m = none) (h : EvA K t Δ1 ds Δ2) (hd : ∀ F, RpL K F dds dvs)
    (hn : ds.length + dds.length + 1 = n) (hR : R (.ins C ns xs :: (ds ++ dds)) d) : EvD K (tMeth C m (spD K n R) dvs E ta t) Δ d Δ2 := fun H0 G T σ H I Q q => ha H0 G T σ H I _ fun v H1 I1 => by
  obtain ⟨F1, g1, g2, t1, _⟩ := I1.open_
  obtain ⟨a, dx, vs1, rfl, k2, k3, k4⟩ := t1.2
  refine ⟨a, dx, _, rfl, g2 _ _ k2, k4.lookup_none hm, h H0 G _ σ H1 I1 _ fun vs H2 I2 => ?_⟩
  obtain ⟨ad, J⟩ := I2
  refine ⟨by rw [List.length_cons, List.length_append, J.tmp.2.length, (hd G).length]; exact hn, vis Δ2 ad H0 G H2, .ins C ns xs :: (ds ++ dds), d, vis_sub, ⟨_, _, rfl, J.tmp.1.2, J.tmp.2.append (hd _)⟩, hR, fun v H' F l r => q v H' ⟨ad, ?_⟩⟩
  exact J.left l (mono_and I.mono mono_rp) fun t => ⟨t.1.1, r⟩
/-- C(..) -/
theorem ev_make {R : List D → List Str → List D → Prop} {n : Nat} {C : Addr} {ns : List Str} {xs : List D} {dvs : List V} {dds : List D} {E : XK} {t : TA} (h : EvA K t Δ ds Δ1) (hd : ∀ F, RpL K F dds dvs) (hn : ds.length + dds.length = n) (hR : R (ds ++ dds) ns xs) :
    EvD K (tMake C (spI K C n R) dvs E t) Δ (.ins C ns xs) Δ1 := fun H0 G T σ H I Q q => h H0 G T σ H I _ fun vs H1 I1 => by
  obtain ⟨ad, J⟩ := I1
  intro x dx nx ndx nex
  have eH : Ex H1 (upd (upd H1 dx (.own x)) x (.ins C dx [])) := fun a o z => by
    rw [upd_ne (by rintro rfl; rw [nx] at z; cases z), upd_ne (by rintro rfl; rw [ndx] at z; cases z)]; exact z
  have gx : vis Δ1 ad H0 G H1 x = none := by
    cases z : vis Δ1 ad H0 G H1 x with
    | none => rfl
    | some o => have := (vis_some z).2; rw [nx] at this; cases this
  refine ⟨by rw [List.length_cons, List.length_append, J.tmp.2.length, (hd G).length, hn], x, dx, vs ++ dvs, vis Δ1 ad H0 G H1, ds ++ dds, ns, xs, rfl, upd_same, gx, vis_sub.trans eH, J.tmp.2.append (hd _), hR, ?_⟩
  intro H' F ws dx' e1 e2 e3 e4 e5 e6 e7
  refine ⟨rfl, q _ H' ?_⟩
  have l : Ex H1 H' := fun a o z => e3 a o (by rintro rfl; rw [nx] at z; cases z) (eH _ _ z)
  have eF : Ex F (vis Δ1 ad H0 G H') := fun a o z => by
    rw [vis_no]
    · exact e2 _ _ z
    · intro hh
      have h1 := J.hid_some hh
      have h2 : (upd (upd H1 dx (.own x)) x (.ins C dx [])) a ≠ none := by
        cases w : H1 a with
        | none => exact absurd w h1
        | some o => rw [eH _ _ w]; exact fun z => nomatch z
      have := e4 a h2 (vis_hid hh)
      rw [z] at this; cases this
  refine ⟨ad, (J.grow l).to (mono_and I.mono mono_rp) ⟨I.mono _ _ (vis_ex l) J.tmp.1, x, dx', ws, rfl, ?_, e6, e7.ex eF⟩⟩
  rw [vis_no fun z => J.hid_some z nx]
  exact e5
/-! ### statements -/
inductive Out where
  | nx (Δ : DE) | rt (d : D) | bk (Δ : DE) | ct (Δ : DE) | rk (d : D) (s : Sl) | rp (R : Hp → Hp → V → Hp → Prop)
def PostO (K : Frag) (H0 G : Hp) (o : Out) (E : Ends) : Prop := match o with
  | .nx Δ' => ∀ σ' H', Ok K H0 G (fun _ => True) Δ' σ' H' → E.nx σ' H'
  | .rt d => ∀ v Δ' σ' H', Ok K H0 G (fun F => Rp K F d v) Δ' σ' H' → E.rt v H'
  | .bk Δ' => ∀ σ' H', Ok K H0 G (fun _ => True) Δ' σ' H' → E.bk σ' H'
  | .ct Δ' => ∀ σ' H', Ok K H0 G (fun _ => True) Δ' σ' H' → E.ct σ' H'
  | .rk d s => ∀ (v : V) (Δ' : DE) σ' H', Δ'[0]? = some s → Ok K H0 G (fun F => Rp K F d v) Δ' σ' H' → E.rt v H'
  | .rp R => ∀ (v : V) H', R H0 G v H' → E.rt v H'
def ExD (K : Frag) (ts : TS) (Δ : DE) (o : Out) : Prop := ∀ (H0 G : Hp) (σ : St) (H : Hp), Ok K H0 G (fun _ => True) Δ σ H → ∀ E : Ends, PostO K H0 G o E → ts E σ H
variable {o : Out} {t u : TS}
theorem x_seq (h : ExD K t Δ (.nx Δ1)) (k : ExD K u Δ1 o) : ExD K (tSeq t u) Δ o := fun H0 G σ H I E p => h H0 G σ H I _ fun σ' H' I' => k H0 G σ' H' I' E p
theorem x_seq_rt (h : ExD K t Δ (.rt d)) : ExD K (tSeq t u) Δ (.rt d) := fun H0 G σ H I E p => h H0 G σ H I _ p
theorem x_seq_bk (h : ExD K t Δ (.bk Δ1)) : ExD K (tSeq t u) Δ (.bk Δ1) := fun H0 G σ H I E p => h H0 G σ H I _ p
theorem x_seq_ct (h : ExD K t Δ (.ct Δ1)) : ExD K (tSeq t u) Δ (.ct Δ1) := fun H0 G σ H I E p => h H0 G σ H I _ p
theorem x_next : ExD K tNext Δ (.nx Δ) := fun H0 G σ H I E p => p σ H I
theorem x_break : ExD K tBreak Δ (.bk Δ) := fun H0 G σ H I E p => p σ H I
theorem x_cont : ExD K tCont Δ (.ct Δ) := fun H0 G σ H I E p => p σ H I
theorem x_ret (h : EvD K te Δ d Δ1) : ExD K (tRet te) Δ (.rt d) := fun H0 G σ H I E p => h H0 G _ σ H I _ fun v H1 I1 => p v Δ1 σ H1 (I1.weak mono_rp fun F t => t.2)
theorem x_ret0 {s : Sl} (h : EvD K te Δ d Δ1) (h0 : Δ1[0]? = some s) : ExD K (tRet te) Δ (.rk d s) := fun H0 G σ H I E p => h H0 G _ σ H I _ fun v H1 I1 => p v Δ1 σ H1 h0 (I1.weak mono_rp fun F t => t.2)
theorem x_retN : ExD K tRetN Δ (.rt .non) := fun H0 G σ H I E p => p .non Δ σ H (I.weak mono_rp fun F t => rfl)
theorem x_if {b : Bool} (h : EvT K tt Δ b Δ1) (h1 : b = true → ExD K t Δ1 o) (h2 : b = false → ExD K u Δ1 o) : ExD K (tIfS tt t u) Δ o := fun H0 G σ H I E p => h H0 G _ σ H I _ fun H1 I1 => by
  cases b with
  | true => exact iteT (h1 rfl H0 G σ H1 I1 E p)
  | false => exact iteF (h2 rfl H0 G σ H1 I1 E p)
theorem x_if_t (h : EvT K tt Δ true Δ1) (h1 : ExD K t Δ1 o) : ExD K (tIfS tt t u) Δ o := x_if h (fun _ => h1) fun z => nomatch z
theorem x_if_f (h : EvT K tt Δ false Δ1) (h1 : ExD K u Δ1 o) : ExD K (tIfS tt t u) Δ o := x_if h (fun z => nomatch z) fun _ => h1
theorem x_is {o' : Out} (h : ExD K t Δ o) (e : o = o') : ExD K t Δ o' := e ▸ h
theorem x_drop (h : EvD K te Δ d Δ1) : ExD K (tDrop te) Δ (.nx Δ1) := fun H0 G σ H I E p => h H0 G _ σ H I _ fun v H1 I1 => p σ H1 (I1.weak mono_true fun _ _ => trivial)
/-- targets -/
def AsD (K : Frag) (g : TG) (Δ : DE) (d : D) (Δ' : DE) : Prop := ∀ (H0 G : Hp) (T : Hp → Prop) (v : V) (σ : St) (H : Hp), Mono T → Ok K H0 G (fun F => T F ∧ Rp K F d v) Δ σ H → ∀ Q : St → Hp → Prop, (∀ σ' H', Ok K H0 G T Δ' σ' H' → Q σ' H') → g v σ H Q
def AsDs (K : Frag) (g : TGs) (Δ : DE) (ds : List D) (Δ' : DE) : Prop := ∀ (H0 G : Hp) (T : Hp → Prop) (vs : List V) (σ : St) (H : Hp), Mono T → Ok K H0 G (fun F => T F ∧ RpL K F ds vs) Δ σ H → ∀ Q : St → Hp → Prop, (∀ σ' H', Ok K H0 G T Δ' σ' H' → Q σ' H') → g vs σ H Q
theorem as_name {i : Nat} : AsD K (gName i) Δ d (Δ.set i (.fr d)) := fun H0 G T v σ H m I Q q => q _ H (I.assign m fun F t => ⟨t.2, t.1⟩)
theorem as_nil : AsDs K gNil Δ [] Δ := fun H0 G T vs σ H m I Q q => by
  obtain ⟨F, _, _, t, _⟩ := I.open_
  exact ⟨t.2, q σ H (I.weak m fun F t => t.1)⟩
theorem as_cons {g : TG} {gs : TGs} (h : AsD K g Δ d Δ1) (hs : AsDs K gs Δ1 ds Δ2) : AsDs K (gCons g gs) Δ (d :: ds) Δ2 := fun H0 G T vs σ H m I Q q => by
  obtain ⟨F, _, _, t, _⟩ := I.open_
  obtain ⟨v, r, rfl, _, _⟩ := t.2
  refine ⟨v, r, rfl, h H0 G (fun F => T F ∧ RpL K F ds r) v σ H (mono_and m mono_rpL) (I.weak (mono_and (mono_and m mono_rpL) mono_rp) fun F t => ?_) _ fun σ' H' I' => hs H0 G T r σ' H' m I' Q q⟩
  obtain ⟨v', r', e, h1, h2⟩ := t.2
  cases e
  exact ⟨⟨t.1, h2⟩, h1⟩
theorem as_tup {n : Nat} {gs : TGs} (h : AsDs K gs Δ ds Δ1) (hn : ds.length = n) : AsD K (gTup K n gs) Δ (.tup ds) Δ1 := fun H0 G T v σ H m I Q q => by
  obtain ⟨F, g1, g2, t, mk, _⟩ := I.open_
  obtain ⟨a, vs, rfl, h2, h3⟩ := t.2
  exact ⟨a, vs, rfl, Evl.ex_t g2 h2, by rw [h3.length, hn], h H0 G T vs σ H m (mk _ (mono_and m mono_rpL) ⟨t.1, h3⟩) Q q⟩
theorem x_asg {g : TG} (h : EvD K te Δ d Δ1) (hg : AsD K g Δ1 d Δ2) : ExD K (tAsg te g) Δ (.nx Δ2) := fun H0 G σ H I E p => h H0 G _ σ H I _ fun v H1 I1 => hg H0 G _ v σ H1 mono_true I1 _ p
theorem x_set {i : Nat} (h : EvD K te Δ d Δ1) : ExD K (tAsg te (gName i)) Δ (.nx (Δ1.set i (.fr d))) := x_asg h as_name
/-- x = a new list, one's own -/
theorem x_setL {i : Nat} (h : EvL K te Δ ds Δ1) : ExD K (tAsg te (gName i)) Δ (.nx (Δ1.set i (.ow none ds))) := fun H0 G σ H I E p => h H0 G _ σ H I _ fun q vs H1 I1 hq => p _ _ (I1.assignNew hq mono_true fun F t => ⟨t.2, trivial⟩)
theorem x_par {i j : Nat} {a b : D} {t : TA} (h : EvA K t Δ [a, b] Δ1) : ExD K (tPar i j t) Δ (.nx ((Δ1.set i (.fr a)).set j (.fr b))) := fun H0 G σ H I E p => h H0 G _ σ H I _ fun vs H1 I1 => by
  obtain ⟨F, _, _, t, _⟩ := I1.open_
  obtain ⟨v, r, rfl, _, w, r', rfl, _, e⟩ := t.2
  cases e
  refine ⟨v, w, rfl, p _ _ (((I1.assign (U := fun F => Rp K F b w) mono_rp fun F t => ?_).assign mono_true fun F t => ⟨t, trivial⟩))⟩
  obtain ⟨v', r', e, h1, w', r2, e2, h2, _⟩ := t.2
  cases e; cases e2
  exact ⟨h1, h2⟩
theorem x_par3 {i j l : Nat} {a b c : D} {t : TA} (h : EvA K t Δ [a, b, c] Δ1) : ExD K (tPar3 i j l t) Δ (.nx (((Δ1.set i (.fr a)).set j (.fr b)).set l (.fr c))) := fun H0 G σ H I E p => h H0 G _ σ H I _ fun vs H1 I1 => by
  obtain ⟨F, _, _, t, _⟩ := I1.open_
  obtain ⟨v, r, rfl, _, w, r', rfl, _, z, r2, rfl, _, e⟩ := t.2
  cases e
  refine ⟨v, w, z, rfl, p _ _ ((((I1.assign (U := fun F => Rp K F b w ∧ Rp K F c z) (mono_and mono_rp mono_rp) fun F t => ?_).assign (U := fun F => Rp K F c z) mono_rp fun F t => ⟨t.1, t.2⟩).assign mono_true fun F t => ⟨t, trivial⟩))⟩
  obtain ⟨v', r', e, h1, w', r2, e2, h2, z', r3, e3, h3, _⟩ := t.2
  cases e; cases e2; cases e3
  exact ⟨h1, h2, h3⟩
theorem x_aug {i : Nat} {f : Int → Int → Int} {a b : Int} (h1 : Δ[i]? = some (.fr (.int a))) (h : EvD K te Δ (.int b) Δ1) : ExD K (tAug i te (ipI f)) Δ (.nx (Δ1.set i (.fr (.int (f a b))))) := fun H0 G σ H I E p => by
  obtain ⟨F, _, _, _, _, sl, _⟩ := I.open_
  obtain ⟨v, k1, k2⟩ := sl i _ h1
  have e : v = .int a := k2
  refine ⟨v, k1, h H0 G _ σ H I _ fun w H1 I1 => ?_⟩
  obtain ⟨F, _, _, t, _⟩ := I1.open_
  have e2 : w = .int b := t.2
  exact ⟨a, b, e, e2, p _ _ (I1.assign mono_true fun F t => ⟨rfl, trivial⟩)⟩
/-- freeze a list of one's own ahead of a statement; forget a slot -/
theorem x_freeze {i : Nat} {tg : Option Addr} {ds : List D} (h1 : Δ[i]? = some (.ow tg ds)) (h : ExD K t (Δ.set i (.fr (.lst ds))) o) : ExD K t Δ o := fun H0 G σ H I E p => h H0 G σ H (I.freeze h1) E p
theorem x_forget {i : Nat} (h : ExD K t (Δ.set i .un) o) : ExD K t Δ o := fun H0 G σ H I E p => h H0 G σ H I.forget E p
/-- behind a statement: freeze, forget -/
theorem x_freezeR {i : Nat} {tg : Option Addr} {ds : List D} (h : ExD K t Δ (.nx Δ1)) (h1 : Δ1[i]? = some (.ow tg ds)) : ExD K t Δ (.nx (Δ1.set i (.fr (.lst ds)))) := fun H0 G σ H I E p => h H0 G σ H I E fun σ' H' I' => p σ' H' (I'.freeze h1)
theorem x_forgetR {i : Nat} (h : ExD K t Δ (.nx Δ1)) : ExD K t Δ (.nx (Δ1.set i .un)) := fun H0 G σ H I E p => h H0 G σ H I E fun σ' H' I' => p σ' H' I'.forget
/-- xs.append(e) -/
theorem x_app {k : Nat} {tg : Option Addr} {ds0 : List D} (h0 : Δ[k]? = some (.ow tg ds0)) (h : EvD K te Δ d Δ1) (h1 : Δ1[k]? = some (.ow tg ds)) (hz : ds.length < 100000) : ExD K (tDrop (tBM K "list" rAppend (tVar k) (tCons te tNil))) Δ (.nx (Δ1.set k (.ow tg (ds ++ [d])))) := fun H0 G σ H I E p => by
  obtain ⟨F, _, _, _, _, _, ow, _⟩ := I.open_
  obtain ⟨l, vs0, _, hv, w2, _, _⟩ := ow k _ _ h0
  refine ⟨_, hv, .inl ⟨rfl, vs0, Evl.sq_of w2⟩, h H0 G _ σ H I _ fun v H1 I1 => ?_⟩
  obtain ⟨F1, _, _, t1, mk, _, ow1, _⟩ := I1.open_
  obtain ⟨l1, vs, _, hv1, k2, k3, _⟩ := ow1 k _ _ h1
  rw [hv] at hv1; injection hv1 with e; injection e with e; injection e with e
  refine ⟨l, vs, v, rfl, rfl, by rw [e]; exact k2, by rw [k3.length]; exact Evl.sz_lt hz, p _ _ ?_⟩
  refine (mk (fun F => RpL K F ds vs ∧ Rp K F d v) (mono_and mono_rpL mono_rp) ⟨k3, t1.2⟩).setList h1 hv mono_true fun F t => ⟨t.1.append ⟨v, [], rfl, t.2, rfl⟩, trivial⟩
/-- xs.pop() -/
theorem ev_pop {k : Nat} {tg : Option Addr} (h0 : Δ[k]? = some (.ow tg ds)) (he : ds[ds.length - 1]? = some d) : EvD K (tBM0 K "list" rPop (tVar k)) Δ d (Δ.set k (.ow tg ds.dropLast)) := fun H0 G T σ H I Q q => by
  obtain ⟨F, _, _, t, mk, _, ow, _⟩ := I.open_
  obtain ⟨l, vs, _, hv, w2, w3, _⟩ := ow k _ _ h0
  obtain ⟨v, k1, k2⟩ := w3.get he
  refine ⟨_, hv, .inl ⟨rfl, vs, Evl.sq_of w2⟩, l, vs, v, rfl, rfl, w2, by rw [w3.length]; exact k1, q v _ ?_⟩
  exact (mk (fun F => T F ∧ RpL K F ds vs ∧ Rp K F d v) (mono_and I.mono (mono_and mono_rpL mono_rp)) ⟨t, w3, k2⟩).setList h0 hv (mono_and I.mono mono_rp) fun F t => ⟨t.2.1.dropLast, t.1, t.2.2⟩
/-- xs.pop(0) -/
theorem ev_pop0 {k : Nat} {tg : Option Addr} (h0 : Δ[k]? = some (.ow tg (d :: ds))) : EvD K (tBM K "list" rPopAt (tVar k) (tCons (tC (.int 0)) tNil)) Δ d (Δ.set k (.ow tg ds)) := fun H0 G T σ H I Q q => by
  obtain ⟨F, _, _, t, mk, _, ow, _⟩ := I.open_
  obtain ⟨l, vs, _, hv, w2, w3, _⟩ := ow k _ _ h0
  obtain ⟨v, r, rfl, k2, k3⟩ := id w3
  refine ⟨_, hv, .inl ⟨rfl, _, Evl.sq_of w2⟩, l, _, 0, 0, v, rfl, rfl, w2, by decide, by decide, by simp [seqIndex?], rfl, q v _ ?_⟩
  exact (mk (fun F => T F ∧ RpL K F ds r ∧ Rp K F d v) (mono_and I.mono (mono_and mono_rpL mono_rp)) ⟨t, k3, k2⟩).setList h0 hv (mono_and I.mono mono_rp) fun F t => ⟨t.2.1, t.1, t.2.2⟩
/-- xs[i] = e -/
theorem x_setitem {k i : Nat} {z : Int} {tg : Option Addr} (h : EvD K te Δ d Δ1) (hb : EvD K tb Δ1 (.int z) Δ2) (hk : ∃ s, Δ1[k]? = some s ∧ s.own = true) (h1 : Δ2[k]? = some (.ow tg ds)) (hi : ixN ds.length z = some i) : ExD K (tAsg te (gSub (tVar k) tb rSetL)) Δ (.nx (Δ2.set k (.ow tg (ds.set i d)))) := fun H0 G σ H I E p => h H0 G _ σ H I _ fun v H1 I1 => by
  obtain ⟨ad, J⟩ := id I1
  obtain ⟨s, hs, ho⟩ := hk
  have hv := (J.sl k s hs).ref ho
  refine ⟨_, hv, hb H0 G _ σ H1 I1 _ fun w H2 I2 => ?_⟩
  obtain ⟨F1, _, _, t1, mk, _, ow1, _⟩ := I2.open_
  obtain ⟨l1, vs, _, hv1, k2, k3, _⟩ := ow1 k _ _ h1
  have hv2 := hv1
  rw [hv] at hv1; injection hv1 with e; injection e with e; injection e with e
  have e2 : w = .int z := t1.2
  refine ⟨l1, vs, z, i, by rw [e], e2, k2, by rw [k3.length]; exact hi, p _ _ ?_⟩
  refine (mk (fun F => RpL K F ds vs ∧ Rp K F d v) (mono_and mono_rpL mono_rp) ⟨k3, t1.1.2⟩).setList h1 hv2 mono_true fun F t => ⟨t.1.set i t.2, trivial⟩
/-- self.f = e in __init__ -/
theorem putF_new {f : Str} {v : V} : ∀ {ns : List Str} {vs : List V}, ns.length = vs.length → f ∉ ns → putF f v (ns.zip vs) = (ns ++ [f]).zip (vs ++ [v])
  | [], [], _, _ => rfl
  | n :: ns, w :: vs, hl, hf => by
    have h1 : ¬ n = f := fun e => hf (e ▸ List.mem_cons_self)
    show (if n = f then (n, v) :: ns.zip vs else (n, w) :: putF f v (ns.zip vs)) = (n, w) :: (ns ++ [f]).zip (vs ++ [v])
    rw [if_neg h1, putF_new (by simpa using hl) fun z => hf (List.mem_cons_of_mem _ z)]
theorem Ok.setFld {k : Nat} {x C : Addr} {ns : List Str} {f : Str} {v : V} {dx : Addr} {vs : List V} {U : Hp → Prop} (I : Ok K H0 G T Δ σ H) (h0 : Δ[k]? = some (.oi x C ns ds)) (hv : σ[k]? = some (some (.ref x))) (hx : H x = some (.ins C dx (ns.zip vs))) (hl : ns.length = ds.length) (hf : f ∉ ns) (m : Mono U)
    (h : ∀ F, T F → RpL K F ds vs ∧ Rp K F d v ∧ U F) : Ok K H0 G U (Δ.set k (.oi x C (ns ++ [f]) (ds ++ [d]))) σ (upd H x (.ins C dx (putF f v (ns.zip vs)))) :=
  I.setOwn h0 rfl rfl hv m fun F t s => by
    obtain ⟨h1, h2, h3⟩ := h F t
    refine ⟨⟨rfl, hv, dx, vs ++ [v], ?_, by simp [hl], h1.append ⟨v, [], rfl, h2, rfl⟩⟩, h3⟩
    rw [upd_same, putF_new (by rw [h1.length]; exact hl) hf]
theorem x_fld {k : Nat} {x C : Addr} {ns : List Str} {f : Str} (h : EvD K te Δ d Δ1) (h0 : Δ1[k]? = some (.oi x C ns ds)) (hc : Cls K C) (hn : NoAttr K C f) (hf : f ∉ ns) (hz : ns.length < 1000) : ExD K (sFld K (tVar k) te f) Δ (.nx (Δ1.set k (.oi x C (ns ++ [f]) (ds ++ [d])))) := fun H0 G σ H I E p => h H0 G _ σ H I _ fun v H1 I1 => by
  obtain ⟨F, _, _, t, mk, _, _, oi, _⟩ := I1.open_
  obtain ⟨dx, vs, hv, w2, w3, w4, _⟩ := oi k _ _ _ _ h0
  refine ⟨_, hv, x, C, dx, _, rfl, w2, hc, hn, by rw [List.length_zip]; omega, p _ _ ?_⟩
  exact (mk (fun F => RpL K F ds vs ∧ Rp K F d v) (mono_and mono_rpL mono_rp) ⟨w4, t.2⟩).setFld h0 hv w2 w3 hf mono_true fun F t => ⟨t.1, t.2, trivial⟩
/-- o.f as a target -/
def gFld (K : Frag) (to : TE) (f : Str) : TG := fun v σ H Q => to σ H fun x H1 => ∃ a C dx fs, x = .ref a ∧ H1 a = some (.ins C dx fs) ∧ Cls K C ∧ NoAttr K C f ∧ fs.length < 1000 ∧ Q σ (upd H1 a (.ins C dx (putF f v fs)))
theorem as_fld {k : Nat} {x C : Addr} {ns : List Str} {f : Str} (h0 : Δ[k]? = some (.oi x C ns ds)) (hc : Cls K C) (hn : NoAttr K C f) (hf : f ∉ ns) (hz : ns.length < 1000) : AsD K (gFld K (tVar k) f) Δ d (Δ.set k (.oi x C (ns ++ [f]) (ds ++ [d]))) := fun H0 G T v σ H m I Q q => by
  obtain ⟨F, _, _, t, mk, _, _, oi, _⟩ := I.open_
  obtain ⟨dx, vs, hv, w2, w3, w4, _⟩ := oi k _ _ _ _ h0
  refine ⟨_, hv, x, C, dx, _, rfl, w2, hc, hn, by rw [List.length_zip]; omega, q _ _ ?_⟩
  exact (mk (fun F => T F ∧ RpL K F ds vs ∧ Rp K F d v) (mono_and m (mono_and mono_rpL mono_rp)) ⟨t.1, w4, t.2⟩).setFld h0 hv w2 w3 hf m fun F t => ⟨t.2.1, t.2.2, t.1⟩
/-! ### a dict of one's own, its keys tuples of ints -/
def Sl.ofT (kvs : List (List Int × Int)) : Sl := .od (kvs.map fun p => (p.1.map Sum.inl, V.int p.2))
theorem Ok.newDict {j p : Nat} (I : Ok K H0 G T Δ σ H) (hp : H p = none) : Ok K H0 G (fun _ => True) (Δ.set j (Sl.ofT [])) (σ.set j (some (.ref p))) (upd H p (.dT [])) := by
  -- first a list of one's own, then a dict in its place
  by_cases hj : j < Δ.length
  · have I1 := I.assignNew (j := j) (ds := []) (vs := []) hp mono_true fun F t => ⟨rfl, trivial⟩
    have h1 : (Δ.set j (Sl.ow none []))[j]? = some (.ow none []) := by rw [List.getElem?_set, if_pos rfl, if_pos hj]
    have h2 : (σ.set j (some (V.ref p)))[j]? = some (some (.ref p)) := by rw [List.getElem?_set, if_pos rfl, if_pos (by rw [I.len]; exact hj)]
    have I2 := I1.setOwn (s1 := Sl.ofT []) (o1 := .dT []) h1 rfl rfl h2 mono_true fun F t k => ⟨⟨h2, upd_same⟩, trivial⟩
    rw [List.set_set, upd_upd] at I2
    exact I2
  · have e1 : Δ.set j (Sl.ofT []) = Δ := List.set_eq_of_length_le (by omega)
    have e2 : σ.set j (some (V.ref p)) = σ := List.set_eq_of_length_le (by rw [I.len]; omega)
    rw [e1, e2]
    exact I.new hp mono_true fun _ _ _ _ _ => trivial
theorem x_newDict {j : Nat} : ExD K (tAsg tDNewT (gName j)) Δ (.nx (Δ.set j (Sl.ofT []))) := fun H0 G σ H I E p => fun q hq => p _ _ (I.newDict hq)
theorem keys_kV : ∀ (ks : List Int), (ks.map Sum.inl : List Key).map kV = ks.map V.int
  | [] => rfl
  | k :: ks => by rw [List.map_cons, List.map_cons, List.map_cons, keys_kV ks]; rfl
def lookT (kvs : List (List Int × Int)) (k : List Int) : Option Int := (kvs.find? fun p => decide (p.1 = k)).map (·.2)
theorem inl_inj : ∀ {a b : List Int}, (a.map Sum.inl : List Key) = b.map Sum.inl ↔ a = b
  | [], [] => by simp
  | [], _ :: _ => by simp
  | _ :: _, [] => by simp
  | x :: a, y :: b => by simp only [List.map_cons, List.cons.injEq, Sum.inl.injEq, inl_inj]
theorem valV_ofT (k : List Int) : ∀ kvs : List (List Int × Int), valV (kvs.map fun p => ((p.1.map Sum.inl : List Key), V.int p.2)) (k.map Sum.inl) = (lookT kvs k).map V.int
  | [] => rfl
  | p :: r => by
    have ih := valV_ofT k r
    rw [List.map_cons]
    by_cases e : p.1 = k
    · rw [valV_pos (p := ((p.1.map Sum.inl : List Key), V.int p.2)) (by rw [e])]
      unfold lookT
      rw [List.find?_cons, decide_eq_true e] <;> rfl
    · rw [valV_neg (p := ((p.1.map Sum.inl : List Key), V.int p.2)) (by intro z; exact e (inl_inj.mp z)), ih]
      unfold lookT
      rw [List.find?_cons, decide_eq_false e]
def D.ofO : Option Int → D
  | none => .non
  | some i => .int i
/-- d.get((a, b, ..)) -/
theorem ev_dget {k : Nat} {kvs : List (List Int × Int)} {ks : List Int} {t : TA} (h0 : Δ[k]? = some (Sl.ofT kvs)) (h : EvA K t Δ (ks.map D.int) Δ) (hz : ks.length ≤ 1000) : EvD K (tDGet1 (tVar k) (tTup t)) Δ (.ofO (lookT kvs ks)) Δ := fun H0 G T σ H I Q q => by
  obtain ⟨F, _, _, _, _, _, _, _, od⟩ := I.open_
  obtain ⟨p, hv, w2, _⟩ := od k _ h0
  refine ⟨_, hv, p, rfl, .inr ⟨_, .inl w2⟩, h H0 G T σ H I _ fun vs H1 I1 => ?_⟩
  obtain ⟨F1, g1, g2, t1, mk, _, _, _, od1⟩ := I1.open_
  obtain ⟨p1, hv1, k2, _⟩ := od1 k _ h0
  rw [hv] at hv1; injection hv1 with e; injection e with e; injection e with e
  subst e
  have ev : vs = ks.map V.int := RpL.ints.mp t1.2
  subst ev
  refine ⟨by rw [List.length_map]; exact Evl.sz_of (by omega), fun b hb => ?_⟩
  have hpb : p ≠ b := by rintro rfl; rw [hb] at k2; cases k2
  have eb : upd H1 b (.tup (ks.map V.int)) b = some (.tup ((ks.map Sum.inl : List Key).map kV)) := by rw [upd_same, keys_kV]
  refine ⟨_, DGet.t (by rw [upd_ne hpb]; exact k2) eb, ?_⟩
  rw [valV_ofT]
  refine q _ _ ((mk T I.mono t1.1).new hb (mono_and I.mono mono_rp) fun F F' t e _ => ⟨I.mono _ _ e t, ?_⟩)
  cases lookT kvs ks <;> rfl
/-- d[a, b, ..] = e, a new key -/
theorem x_dput {k : Nat} {kvs : List (List Int × Int)} {ks : List Int} {z : Int} {t : TA} (hv0 : EvD K te Δ (.int z) Δ) (h0 : Δ[k]? = some (Sl.ofT kvs)) (h : EvA K t Δ (ks.map D.int) Δ) (hz : ks.length ≤ 1000) (hn : lookT kvs ks = none) (hk : kvs.length < 100000) :
    ExD K (sDPut (tVar k) (tTup t) te) Δ (.nx (Δ.set k (Sl.ofT (kvs ++ [(ks, z)])))) := fun H0 G σ H I E p => hv0 H0 G _ σ H I _ fun v H1 I1 => by
  obtain ⟨F, _, _, _, _, _, _, _, od⟩ := I1.open_
  obtain ⟨a, hv, w2, _⟩ := od k _ h0
  refine ⟨_, hv, h H0 G _ σ H1 I1 _ fun vs H2 I2 => ?_⟩
  obtain ⟨F1, g1, g2, t1, mk, _, _, _, od1⟩ := I2.open_
  obtain ⟨p1, hv1, k2, _⟩ := od1 k _ h0
  have hv2 := hv1
  rw [hv] at hv1; injection hv1 with e; injection e with e; injection e with e
  have ev : vs = ks.map V.int := RpL.ints.mp t1.2
  have ez : v = .int z := t1.1.2
  subst ev ez
  refine ⟨by rw [List.length_map]; exact Evl.sz_of (by omega), fun b hb => ?_⟩
  have hpb : p1 ≠ b := by rintro rfl; rw [hb] at k2; cases k2
  have eb : upd H2 b (.tup (ks.map V.int)) b = some (.tup ((ks.map Sum.inl : List Key).map kV)) := by rw [upd_same, keys_kV]
  have I3 : Ok K H0 G (fun _ => True) Δ σ (upd H2 b (.tup (ks.map V.int))) := I2.new hb mono_true fun _ _ _ _ _ => trivial
  refine ⟨p1, _, by rw [e], DPut.t (by rw [upd_ne hpb]; exact k2) eb (by rw [List.length_map]; exact Evl.sz_lt hk), ?_⟩
  rw [putK_new _ (by rw [valV_ofT, hn]; rfl)]
  have I4 := I3.setOwn (s1 := Sl.ofT (kvs ++ [(ks, z)])) (o1 := .dT ((kvs.map fun p => ((p.1.map Sum.inl : List Key), V.int p.2)) ++ [((ks.map Sum.inl : List Key), V.int z)])) h0 rfl rfl hv2 mono_true fun F t k => ⟨⟨hv2, by rw [upd_same, List.map_append]; rfl⟩, trivial⟩
  exact p _ _ I4
end
end DL

set_option Elab.async false
set_option linter.all false
set_option maxRecDepth 100000
set_option maxHeartbeats 1000000
namespace DL
open PySem L2
section
variable {K : Frag} {H0 G H : Hp} {T : Hp → Prop} {σ : St} {Δ Δ1 Δ2 Δ3 : DE} {ta tb te tc : TE} {tt tu : TT} {d x y : D} {ds es : List D} {o : Out} {t u : TS}
/-! ### what a for walks -/
/-- J gives the items ds, wherever F stands -/
def Gives (K : Frag) (F : Hp) (ds : List D) (J : It) : Prop := ∀ H, Ex F H → ∀ i : Nat, (i < ds.length → J.go i H) ∧ (∀ d, ds[i]? = some d → ∀ v H', J.yld i H v H' → H' = H ∧ Rp K F d v) ∧ (ds.length ≤ i → J.stop i H)
theorem gives_mono {ds : List D} {J : It} : Mono fun F => Gives K F ds J := fun F F' e h H e2 i => by
  obtain ⟨h1, h2, h3⟩ := h H (e.trans e2) i
  exact ⟨h1, fun d hd v H' y => ⟨(h2 d hd v H' y).1, ((h2 d hd v H' y).2).ex e⟩, h3⟩
def EvI (K : Frag) (wi : TI) (Δ : DE) (ds : List D) (Δ' : DE) : Prop := ∀ (H0 G : Hp) (T : Hp → Prop) (σ : St) (H : Hp), Ok K H0 G T Δ σ H → ∀ R : It → Hp → Prop, (∀ J H1, Ok K H0 G (fun F => T F ∧ Gives K F ds J) Δ' σ H1 → R J H1) → wi σ H R
def iSeq (K : Frag) (tl : TE) : TI := fun σ H R => tl σ H fun x H1 => ∃ a, x = .ref a ∧ (((∃ xs, SqL K H1 a xs) ∧ R (Itl K a) H1) ∨ ((∃ xs, SqT K H1 a xs) ∧ R (Itt K a) H1))
/-- what is to be read is one thing -/
theorem sqL_one {H : Hp} {a : Addr} {xs ys : List V} (hm : ∀ o, K.lookup a = some o → H a = none) (h : H a = some (.lst xs)) (k : SqL K H a ys) : ys = xs := by
  rcases k with (k | ⟨o, k⟩) | ⟨o, its, n, k, _⟩
  · rw [h] at k; injection k with k; injection k with k; exact k.symm
  · rw [h] at k; cases k
  · have := hm o k; rw [h] at this; cases this
theorem ei_range1 {n : Int} {ta : TA} (h : EvA K ta Δ [.int n] Δ1) (h0 : -100000 ≤ n) (h1 : n ≤ 100000) : EvI K (iRng1 ta) Δ ((List.range n.toNat).map fun i => D.int (i : Nat)) Δ1 := fun H0 G T σ H I R r => h H0 G T σ H I _ fun vs H1 I1 => by
  obtain ⟨F, _, _, t, mk, _⟩ := I1.open_
  have e : vs = [.int n] := (RpL.ints (ns := [n])).mp t.2
  refine ⟨n, e, by omega, by omega, r _ _ (mk _ (mono_and I.mono gives_mono) ⟨t.1, fun H2 _ i => ⟨fun hi => ?_, fun d hd v H' y => ?_, fun hi => ?_⟩⟩)⟩
  · simpa [Itr] using hi
  · obtain ⟨y1, y2⟩ := y
    refine ⟨y1, ?_⟩
    rw [List.getElem?_map] at hd
    cases q : (List.range n.toNat)[i]? with
    | none => rw [q] at hd; cases hd
    | some j =>
      rw [q] at hd
      obtain ⟨_, q2⟩ := List.getElem?_eq_some_iff.mp q
      rw [List.getElem_range] at q2
      cases hd
      show v = .int _
      rw [y2, ← q2]
      congr 1; omega
  · simpa [Itr] using hi
theorem ei_range2 {lo hi : Int} {ta : TA} (h : EvA K ta Δ [.int lo, .int hi] Δ1) (h0 : -100000 ≤ lo ∧ lo ≤ 100000 ∧ -100000 ≤ hi ∧ hi ≤ 100000) : EvI K (iRng2 ta) Δ ((List.range (hi - lo).toNat).map fun i => D.int (lo + (i : Nat))) Δ1 := fun H0 G T σ H I R r => h H0 G T σ H I _ fun vs H1 I1 => by
  obtain ⟨F, _, _, t, mk, _⟩ := I1.open_
  have e : vs = [.int lo, .int hi] := (RpL.ints (ns := [lo, hi])).mp t.2
  refine ⟨lo, hi, e, ⟨by omega, by omega, by omega, by omega⟩, r _ _ (mk _ (mono_and I.mono gives_mono) ⟨t.1, fun H2 _ i => ⟨fun hi => ?_, fun d hd v H' y => ?_, fun hi => ?_⟩⟩)⟩
  · simpa [Itr] using hi
  · obtain ⟨y1, y2⟩ := y
    refine ⟨y1, ?_⟩
    rw [List.getElem?_map] at hd
    cases q : (List.range (hi - lo).toNat)[i]? with
    | none => rw [q] at hd; cases hd
    | some j =>
      rw [q] at hd
      obtain ⟨_, q2⟩ := List.getElem?_eq_some_iff.mp q
      rw [List.getElem_range] at q2
      cases hd
      show v = .int _
      rw [y2, ← q2]
  · simpa [Itr] using hi
/-- the written part is no tracked object's place -/
def Apart (K : Frag) (H : Hp) : Prop := ∀ a o, K.lookup a = some o → H a = none
theorem itl_gives {F : Hp} {a : Addr} {vs : List V} (hF : F a = some (.lst vs)) (h : RpL K F ds vs) : (∀ H, Ex F H → ∀ xs, SqL K H a xs → xs = vs) → Gives K F ds (Itl K a) := fun one H e i => by
  refine ⟨fun hi => ?_, fun d hd v H' y => ?_, fun hi => ?_⟩
  · exact ⟨vs, vs[i]'(by rw [h.length]; exact hi), Evl.sq_of (e _ _ hF), by simp [h.length, hi]⟩
  · obtain ⟨y1, y2⟩ := y
    have k := y2 vs (Evl.sq_of (e _ _ hF))
    obtain ⟨v', k1, k2⟩ := h.get hd
    rw [k1] at k; cases k
    exact ⟨y1, k2⟩
  · exact ⟨vs, Evl.sq_of (e _ _ hF), by rw [h.length]; exact hi⟩
theorem itl_gives' {F : Hp} {a : Addr} {vs : List V} (hF : SqL K F a vs) (h : RpL K F ds vs) : Gives K F ds (Itl K a) := fun H e i => by
  refine ⟨fun hi => ?_, fun d hd v H' y => ?_, fun hi => ?_⟩
  · exact ⟨vs, vs[i]'(by rw [h.length]; exact hi), Evl.ex_l e hF, by simp [h.length, hi]⟩
  · obtain ⟨y1, y2⟩ := y
    have k := y2 vs (Evl.ex_l e hF)
    obtain ⟨v', k1, k2⟩ := h.get hd
    rw [k1] at k; cases k
    exact ⟨y1, k2⟩
  · exact ⟨vs, Evl.ex_l e hF, by rw [h.length]; exact hi⟩
theorem itt_gives {F : Hp} {a : Addr} {vs : List V} (hF : SqT K F a vs) (h : RpL K F ds vs) : Gives K F ds (Itt K a) := fun H e i => by
  refine ⟨fun hi => ?_, fun d hd v H' y => ?_, fun hi => ?_⟩
  · exact ⟨vs, vs[i]'(by rw [h.length]; exact hi), Evl.ex_t e hF, by simp [h.length, hi]⟩
  · obtain ⟨y1, y2⟩ := y
    have k := y2 vs (Evl.ex_t e hF)
    obtain ⟨v', k1, k2⟩ := h.get hd
    rw [k1] at k; cases k
    exact ⟨y1, k2⟩
  · exact ⟨vs, Evl.ex_t e hF, by rw [h.length]; exact hi⟩
theorem ei_seq (h : EvD K te Δ x Δ1) (hx : x.items = some ds) : EvI K (iSeq K te) Δ ds Δ1 := fun H0 G T σ H I R r => h H0 G T σ H I _ fun v H1 I1 => by
  obtain ⟨F, g1, g2, t, mk, _⟩ := I1.open_
  obtain ⟨a, vs, rfl, h2, h3⟩ := rp_items t.2 hx
  rcases h2 with h2 | h2
  · exact ⟨a, rfl, .inl ⟨⟨vs, Evl.ex_l g2 h2⟩, r _ _ (mk _ (mono_and I.mono gives_mono) ⟨t.1, itl_gives' h2 h3⟩)⟩⟩
  · exact ⟨a, rfl, .inr ⟨⟨vs, Evl.ex_t g2 h2⟩, r _ _ (mk _ (mono_and I.mono gives_mono) ⟨t.1, itt_gives h2 h3⟩)⟩⟩
/-- a text, sign by sign -/
theorem ei_str {z : Str} (h : EvD K te Δ (.str z) Δ1) : EvI K (iStr te) Δ (z.cps.toList.map fun c => D.str ⟨#[c]⟩) Δ1 := fun H0 G T σ H I R r => h H0 G T σ H I _ fun v H1 I1 => by
  obtain ⟨F, g1, g2, t, mk, _⟩ := I1.open_
  refine ⟨z, t.2, r _ _ (mk _ (mono_and I.mono gives_mono) ⟨t.1, fun H2 _ i => ⟨fun hi => ?_, fun d hd v H' y => ?_, fun hi => ?_⟩⟩)⟩
  · simpa [Its] using hi
  · obtain ⟨y1, c, y2, y3⟩ := y
    refine ⟨y1, ?_⟩
    rw [List.getElem?_map, Array.getElem?_toList, y2] at hd
    cases hd
    exact y3
  · simpa [Its] using hi
/-! ### loops -/
/-- a turn's end -/
def TurnD (K : Frag) (t : TS) (Δ Δ' : DE) : Prop := ExD K t Δ (.nx Δ') ∨ ExD K t Δ (.ct Δ')
/-- a for: turns 0 to k go on; then the end, or a turn that leaves -/
theorem x_forC {wi : TI} {g : TG} {k : Nat} {Δ0 : DE} (hi : EvI K wi Δ ds Δ0) (I : Nat → DE) (h0 : I 0 = Δ0) (hk : k ≤ ds.length)
    (hs : ∀ (i : Nat) (d : D), i < k → ds[i]? = some d → ∃ Δ', AsD K g (I i) d Δ' ∧ TurnD K t Δ' (I (i + 1)))
    (he : (k = ds.length ∧ o = .nx (I k)) ∨ ∃ d Δ', ds[k]? = some d ∧ AsD K g (I k) d Δ' ∧ ((∃ e, o = .rt e ∧ ExD K t Δ' (.rt e)) ∨ ∃ Δ2, o = .nx Δ2 ∧ ExD K t Δ' (.bk Δ2))) : ExD K (tFor wi g t) Δ o := fun H0 G σ H J E p => hi H0 G _ σ H J _ fun It H1 J1 => by
  obtain ⟨B, G1, R1, ⟨_, gv⟩, gb, back⟩ := J1.rebase
  have R1 : Ok K B G1 (fun _ => True) Δ0 σ H1 := R1.weak mono_true fun _ _ => trivial
  refine ⟨fun i m σ' H' => i ≤ k ∧ m = ds.length + 1 - i ∧ Ok K B G1 (fun _ => True) (I i) σ' H', ⟨ds.length + 1, Nat.zero_le _, by omega, by rw [h0]; exact R1⟩, ?_⟩
  rintro i m σ' H' ⟨hi, rfl, R⟩
  have gH : Ex G1 H' := by
    obtain ⟨F, e1, e2, _⟩ := R.open_
    exact e1.trans e2
  obtain ⟨v1, v2, v3⟩ := gv H' gH i
  rcases Nat.lt_or_ge i k with hlt | hge
  · have hlt2 : i < ds.length := by omega
    refine .inr ⟨v1 hlt2, fun σ2 H2 => Ok K B G1 (fun _ => True) (I (i + 1)) σ2 H2, fun σ2 H2 r => ⟨ds.length + 1 - (i + 1), by omega, by omega, rfl, r⟩, fun v H2 y => ?_⟩
    have hd : ds[i]? = some ds[i] := List.getElem?_eq_getElem hlt2
    obtain ⟨y1, y2⟩ := v2 _ hd v H2 y
    subst y1
    obtain ⟨Δ', a, tr⟩ := hs i _ hlt hd
    refine a B G1 (fun _ => True) v σ' H2 mono_true (R.weak' y2) _ fun σ3 H3 r3 => ?_
    rcases tr with tr | tr
    · exact tr B G1 σ3 H3 r3 _ fun σ4 H4 r4 => r4
    · exact tr B G1 σ3 H3 r3 _ fun σ4 H4 r4 => r4
  · have hik : i = k := by omega
    subst hik
    rcases he with ⟨h1, h2⟩ | ⟨d, Δ', h1, h2, h3⟩
    · subst h2
      exact .inl ⟨v3 (by omega), p σ' H' (back _ _ _ _ R)⟩
    · have hlt2 : i < ds.length := (List.getElem?_eq_some_iff.mp h1).1
      refine .inr ⟨v1 hlt2, fun _ _ => False, fun σ2 H2 r => r.elim, fun v H2 y => ?_⟩
      obtain ⟨y1, y2⟩ := v2 _ h1 v H2 y
      subst y1
      refine h2 B G1 (fun _ => True) v σ' H2 mono_true (R.weak' y2) _ fun σ3 H3 r3 => ?_
      rcases h3 with ⟨e, rfl, h3⟩ | ⟨Δ2, rfl, h3⟩
      · exact h3 B G1 σ3 H3 r3 _ fun v Δ4 σ4 H4 r4 => p v Δ4 σ4 H4 (back _ _ _ _ r4)
      · exact h3 B G1 σ3 H3 r3 _ fun σ4 H4 r4 => p σ4 H4 (back _ _ _ _ r4)

/-- a for that goes to its end -/
theorem x_for {wi : TI} {g : TG} {Δ0 : DE} (hi : EvI K wi Δ ds Δ0) (I : Nat → DE) (h0 : I 0 = Δ0) (hs : ∀ (i : Nat) (d : D), i < ds.length → ds[i]? = some d → ∃ Δ', AsD K g (I i) d Δ' ∧ TurnD K t Δ' (I (i + 1))) : ExD K (tFor wi g t) Δ (.nx (I ds.length)) :=
  x_forC hi I h0 (Nat.le_refl _) hs (.inl ⟨rfl, rfl⟩)
/-- a while -/
theorem x_whileC {n : Nat} (I : Nat → DE) (hs : ∀ i, i < n → ∃ Δ', EvT K tt (I i) true Δ' ∧ TurnD K t Δ' (I (i + 1)))
    (he : (∃ Δ', EvT K tt (I n) false Δ' ∧ o = .nx Δ') ∨ ∃ Δ', EvT K tt (I n) true Δ' ∧ ((∃ e, o = .rt e ∧ ExD K t Δ' (.rt e)) ∨ ∃ Δ2, o = .nx Δ2 ∧ ExD K t Δ' (.bk Δ2))) : ExD K (tWhile tt t) (I 0) o := fun H0 G σ H J E p => by
  refine ⟨fun m σ' H' => ∃ i, i ≤ n ∧ m = n - i ∧ Ok K H0 G (fun _ => True) (I i) σ' H', ⟨n, 0, Nat.zero_le _, rfl, J⟩, ?_⟩
  rintro m σ' H' ⟨i, hi, rfl, R⟩
  rcases Nat.lt_or_ge i n with hlt | hge
  · obtain ⟨Δ', h1, h2⟩ := hs i hlt
    refine h1 H0 G _ σ' H' R _ fun H1 I1 => iteT ⟨fun σ2 H2 => Ok K H0 G (fun _ => True) (I (i + 1)) σ2 H2, fun σ2 H2 r => ⟨n - (i + 1), by omega, i + 1, by omega, rfl, r⟩, ?_⟩
    rcases h2 with h2 | h2
    · exact h2 H0 G σ' H1 I1 _ fun _ _ r => r
    · exact h2 H0 G σ' H1 I1 _ fun _ _ r => r
  · have e : i = n := by omega
    subst e
    rcases he with ⟨Δ', h1, rfl⟩ | ⟨Δ', h1, h2⟩
    · exact h1 H0 G _ σ' H' R _ fun H1 I1 => iteF (p σ' H1 I1)
    · refine h1 H0 G _ σ' H' R _ fun H1 I1 => iteT ⟨fun _ _ => False, fun σ2 H2 r => r.elim, ?_⟩
      rcases h2 with ⟨e, rfl, h2⟩ | ⟨Δ2, rfl, h2⟩
      · exact h2 H0 G σ' H1 I1 _ p
      · exact h2 H0 G σ' H1 I1 _ p
theorem x_while {n : Nat} (I : Nat → DE) (hs : ∀ i, i < n → ∃ Δ', EvT K tt (I i) true Δ' ∧ TurnD K t Δ' (I (i + 1))) (he : EvT K tt (I n) false Δ1) : ExD K (tWhile tt t) (I 0) (.nx Δ1) := x_whileC I hs (.inl ⟨_, he, rfl⟩)
/-! ### comprehensions -/
def wipeD (Δ : DE) : List Nat → DE
  | [] => Δ
  | v :: vs => (wipeD Δ vs).set v .un
theorem Ok.wipe1 {i : Nat} (I : Ok K H0 G T Δ σ H) : Ok K H0 G T (Δ.set i .un) (σ.set i none) H := by
  obtain ⟨ad, J⟩ := I.forget (i := i)
  refine ⟨ad, J.ext, J.sub, J.fr0, J.inj, by simpa using J.len, fun k s h => ?_, J.mono, J.tmp⟩
  have h1 := J.sl k s h
  rcases set_get h with ⟨rfl, rfl⟩ | ⟨z, q⟩
  · obtain ⟨u, hu⟩ := h1
    have hl := (List.getElem?_eq_some_iff.mp hu).1
    exact ⟨none, by rw [List.getElem?_set, if_pos rfl, if_pos hl]⟩
  · rw [List.getElem?_set, if_neg fun w => z w.symm]; exact h1
theorem Ok.wipe (I : Ok K H0 G T Δ σ H) : ∀ vs : List Nat, Ok K H0 G T (wipeD Δ vs) (L2.wipe σ vs) H
  | [] => I
  | v :: vs => (I.wipe vs).wipe1
theorem wipeD_get {i : Nat} : ∀ {vs : List Nat}, i ∉ vs → (wipeD Δ vs)[i]? = Δ[i]?
  | [], _ => rfl
  | v :: vs, h => by
    show ((wipeD Δ vs).set v .un)[i]? = _
    rw [List.getElem?_set, if_neg (fun (e : v = i) => h (by rw [e]; exact List.mem_cons_self))]
    exact wipeD_get fun z => h (List.mem_cons_of_mem _ z)
theorem wipe_get {i : Nat} : ∀ {vs : List Nat}, i ∉ vs → (L2.wipe σ vs)[i]? = σ[i]?
  | [], _ => rfl
  | v :: vs, h => by
    show ((L2.wipe σ vs).set v none)[i]? = _
    rw [List.getElem?_set, if_neg (fun (e : v = i) => h (by rw [e]; exact List.mem_cons_self))]
    exact wipe_get fun z => h (List.mem_cons_of_mem _ z)
theorem wipeD_len : ∀ vs : List Nat, (wipeD Δ vs).length = Δ.length
  | [] => rfl
  | v :: vs => by show ((wipeD Δ vs).set v .un).length = _; rw [List.length_set, wipeD_len vs]
theorem wipeD_in {i : Nat} : ∀ {vs : List Nat}, i ∈ vs → i < Δ.length → (wipeD Δ vs)[i]? = some .un
  | v :: vs, h, hl => by
    show ((wipeD Δ vs).set v .un)[i]? = _
    rw [List.getElem?_set]
    by_cases e : v = i
    · rw [if_pos e, if_pos (by rw [wipeD_len]; omega)]
    · rw [if_neg e]
      exact wipeD_in ((List.mem_cons.mp h).resolve_left fun z => e z.symm) hl
/-- what the wiped slots held -/
def SlFr (K : Frag) (vs : List Nat) (Δ : DE) (σ : St) (F : Hp) : Prop := ∀ i ∈ vs, ∀ d, Δ[i]? = some (.fr d) → ∃ v, σ[i]? = some (some v) ∧ Rp K F d v
theorem slFr_mono {vs : List Nat} : Mono (SlFr K vs Δ σ) := fun F F' e h i hi d hd => by
  obtain ⟨v, h1, h2⟩ := h i hi d hd
  exact ⟨v, h1, h2.ex e⟩
/-- back to the slots as they stood -/
theorem Ok.unwipe {vs : List Nat} {Δ' : DE} {σ' : St} (I : Ok K H0 G (fun F => T F ∧ SlFr K vs Δ σ F) Δ' σ' H) (m : Mono T) (hσ : L2.wipe σ' vs = L2.wipe σ vs) (hΔ : wipeD Δ' vs = wipeD Δ vs) (hl : σ.length = Δ.length) (hno : ∀ i ∈ vs, ∀ s, Δ[i]? = some s → s.own = false) : Ok K H0 G T Δ σ H := by
  obtain ⟨ad, I⟩ := I
  have g : ∀ i, i ∉ vs → Δ'[i]? = Δ[i]? := fun i hi => by rw [← wipeD_get (Δ := Δ') hi, hΔ, wipeD_get hi]
  have gs : ∀ i, i ∉ vs → σ'[i]? = σ[i]? := fun i hi => by rw [← wipe_get (σ := σ') hi, hσ, wipe_get hi]
  have ow : ∀ (i : Nat) (s : Sl), Δ[i]? = some s → s.own = true → Δ'[i]? = some s := fun i s h1 h2 => by
    by_cases hi : i ∈ vs
    · rw [hno i hi s h1] at h2; cases h2
    · rw [g i hi]; exact h1
  have e : Ex (vis Δ' ad H0 G H) (vis Δ ad H0 G H) := vis_less fun i s h1 h2 => ⟨s, ow i s h1 h2, h2⟩
  refine ⟨ad, I.ext, I.sub, fun i s h1 h2 => I.fr0 i s (ow i s h1 h2) h2, fun i k s u h1 h2 h3 h4 => I.inj i k s u (ow i s h1 h2) h2 (ow k u h3 h4) h4, hl, fun i s h1 => ?_, m, m _ _ e I.tmp.1⟩
  by_cases hi : i ∈ vs
  · cases s with
    | un =>
      have h2 : i < Δ.length := (List.getElem?_eq_some_iff.mp h1).1
      exact ⟨σ[i]'(by omega), List.getElem?_eq_getElem _⟩
    | fr d =>
      obtain ⟨v, k1, k2⟩ := I.tmp.2 i hi d h1
      exact ⟨v, k1, k2.ex e⟩
    | ow t ds => have := hno i hi _ h1; cases this
    | oi t C ns ds => have := hno i hi _ h1; cases this
    | od kvs => have := hno i hi _ h1; cases this
  · rw [← gs i hi]
    exact (I.sl i s (by rw [g i hi]; exact h1)).ex e fun _ _ z => z
/-- a target of names alone: nothing but the slots vs is set -/
def GNm (g : TG) (vs : List Nat) : Prop := ∀ v σ H (Q : St → Hp → Prop), g v σ H Q → g v σ H fun σ' H' => L2.wipe σ' vs = L2.wipe σ vs ∧ Q σ' H'
def GNms (g : TGs) (vs : List Nat) : Prop := ∀ v σ H (Q : St → Hp → Prop), g v σ H Q → g v σ H fun σ' H' => L2.wipe σ' vs = L2.wipe σ vs ∧ Q σ' H'
theorem wipe_set {i : Nat} {x : Option V} : ∀ {vs : List Nat}, i ∈ vs → L2.wipe (σ.set i x) vs = L2.wipe σ vs
  | v :: vs, h => by
    show (L2.wipe (σ.set i x) vs).set v none = (L2.wipe σ vs).set v none
    by_cases hi : i ∈ vs
    · rw [wipe_set hi]
    · have e : i = v := (List.mem_cons.mp h).resolve_right hi
      subst e
      apply List.ext_getElem?
      intro k
      rw [List.getElem?_set, List.getElem?_set]
      by_cases ek : i = k
      · subst ek
        rw [if_pos rfl, if_pos rfl, L2.wipe_length, L2.wipe_length, List.length_set]
      · rw [if_neg ek, if_neg ek]
        by_cases hk : k ∈ vs
        · have hw : ∀ (τ : St), (L2.wipe τ vs)[k]? = if k < τ.length then some none else none := fun τ => by
            clear hi h
            induction vs with
            | nil => simp at hk
            | cons w ws ih =>
              show ((L2.wipe τ ws).set w none)[k]? = _
              rw [List.getElem?_set]
              by_cases ew : w = k
              · rw [if_pos ew, L2.wipe_length, ew]
              · rw [if_neg ew]
                exact ih ((List.mem_cons.mp hk).resolve_left fun z => ew z.symm)
          rw [hw, hw, List.length_set]
        · rw [wipe_get hk, wipe_get hk, List.getElem?_set, if_neg ek]
theorem gn_name {i : Nat} {vs : List Nat} (h : i ∈ vs) : GNm (gName i) vs := fun v σ H Q q => ⟨wipe_set h, q⟩
theorem gn_nil {vs : List Nat} : GNms gNil vs := fun v σ H Q q => ⟨q.1, rfl, q.2⟩
theorem gn_monoS {g : TGs} {vs : List Nat} (mono : ∀ v σ H (Q Q' : St → Hp → Prop), (∀ σ' H', Q σ' H' → Q' σ' H') → g v σ H Q → g v σ H Q') (h : GNms g vs) : GNms g vs := h
/-- targets pass on -/
def GMono (g : TG) : Prop := ∀ v σ H (Q Q' : St → Hp → Prop), (∀ σ' H', Q σ' H' → Q' σ' H') → g v σ H Q → g v σ H Q'
def GMonos (g : TGs) : Prop := ∀ v σ H (Q Q' : St → Hp → Prop), (∀ σ' H', Q σ' H' → Q' σ' H') → g v σ H Q → g v σ H Q'
theorem gm_name {i : Nat} : GMono (gName i) := fun v σ H Q Q' k q => k _ _ q
theorem gm_nil : GMonos gNil := fun v σ H Q Q' k q => ⟨q.1, k _ _ q.2⟩
theorem gm_cons {g : TG} {gs : TGs} (h : GMono g) (hs : GMonos gs) : GMonos (gCons g gs) := fun v σ H Q Q' k q => by
  obtain ⟨x, r, e, q⟩ := q
  exact ⟨x, r, e, h _ _ _ _ _ (fun σ' H' q' => hs _ _ _ _ _ k q') q⟩
theorem gn_cons {g : TG} {gs : TGs} {vs : List Nat} (m : GMono g) (h : GNm g vs) (ms : GMonos gs) (hs : GNms gs vs) : GNms (gCons g gs) vs := fun v σ H Q q => by
  obtain ⟨x, r, e, q⟩ := q
  refine ⟨x, r, e, m _ _ _ _ _ (fun σ' H' q' => ?_) (h _ _ _ _ q)⟩
  obtain ⟨w, q'⟩ := q'
  exact ms _ _ _ _ _ (fun σ2 H2 q2 => ⟨q2.1.trans w, q2.2⟩) (hs _ _ _ _ q')
theorem gn_tup {n : Nat} {gs : TGs} {vs : List Nat} (hs : GNms gs vs) : GNm (gTup K n gs) vs := fun v σ H Q q => by
  obtain ⟨a, xs, e, h1, h2, q⟩ := q
  exact ⟨a, xs, e, h1, h2, hs _ _ _ _ q⟩
/-- the list in the making, out of sight -/
theorem Ok.hideNew {D : Addr} {o1 : HO} (I : Ok K H0 G T Δ σ H) (hD : H D = none) : Ok K (upd H0 D o1) G T Δ σ (upd H D o1) := by
  obtain ⟨ad, I⟩ := I
  have h0 : H0 D = none := by
    cases q : H0 D with
    | none => rfl
    | some o => have := I.ext _ _ q; rw [hD] at this; cases this
  have g0 : G D = none := by
    cases q : G D with
    | none => rfl
    | some o => have := I.sub _ _ q; rw [h0] at this; cases this
  have hidD : Hid Δ ad (upd H0 D o1) G D := .inr ⟨by rw [upd_same]; exact (fun z => by cases z), g0⟩
  have hidE : ∀ a, a ≠ D → (Hid Δ ad (upd H0 D o1) G a ↔ Hid Δ ad H0 G a) := fun a h => by unfold Hid; rw [upd_ne h]
  have vE : vis Δ ad (upd H0 D o1) G (upd H D o1) = vis Δ ad H0 G H := by
    funext a
    by_cases e : a = D
    · subst e
      rw [vis_hid hidD]
      cases q : vis Δ ad H0 G H a with
      | none => rfl
      | some o => have := (vis_some q).2; rw [hD] at this; cases this
    · by_cases q : Hid Δ ad H0 G a
      · rw [vis_hid q, vis_hid ((hidE a e).mpr q)]
      · rw [vis_no q, vis_no fun z => q ((hidE a e).mp z), upd_ne e]
  have adD : ∀ i s, Δ[i]? = some s → s.own = true → ad i ≠ D := fun i s h1 h2 z => by
    obtain ⟨ob, q⟩ := (I.sl i s h1).there h2
    rw [z, hD] at q; cases q
  refine ⟨ad, fun a o q => ?_, fun a o q => ?_, fun i s h1 h2 => by rw [upd_ne (adD i s h1 h2)]; exact I.fr0 i s h1 h2, I.inj, I.len, fun i s h1 => ?_, I.mono, by rw [vE]; exact I.tmp⟩
  · by_cases e : a = D
    · subst e; rw [upd_same] at q ⊢; exact q
    · rw [upd_ne e] at q ⊢; exact I.ext _ _ q
  · rw [upd_ne (by rintro rfl; rw [g0] at q; cases q)]; exact I.sub _ _ q
  · rw [vE]
    exact (I.sl i s h1).ex (fun _ _ z => z) (Evl.Ex.new hD)
theorem Ok.hideSet {D : Addr} {o1 o2 : HO} (h0 : H0 D = none) (I : Ok K (upd H0 D o1) G T Δ σ H) (hG : G D = none) : Ok K (upd H0 D o2) G T Δ σ (upd H D o2) := by
  obtain ⟨ad, I⟩ := I
  have hidE : ∀ a, (Hid Δ ad (upd H0 D o2) G a ↔ Hid Δ ad (upd H0 D o1) G a) := fun a => by
    by_cases h : a = D
    · subst h; unfold Hid; rw [upd_same, upd_same]; simp
    · unfold Hid; rw [upd_ne h, upd_ne h]
  have hidD : Hid Δ ad (upd H0 D o1) G D := .inr ⟨by rw [upd_same]; exact (fun z => by cases z), hG⟩
  have vE : vis Δ ad (upd H0 D o2) G (upd H D o2) = vis Δ ad (upd H0 D o1) G H := by
    funext a
    by_cases q : Hid Δ ad (upd H0 D o1) G a
    · rw [vis_hid q, vis_hid ((hidE a).mpr q)]
    · rw [vis_no q, vis_no fun z => q ((hidE a).mp z), upd_ne (by rintro rfl; exact q hidD)]
  have adD : ∀ i s, Δ[i]? = some s → s.own = true → ad i ≠ D := fun i s h1 h2 z => by
    have := I.fr0 i s h1 h2; rw [z, upd_same] at this; cases this
  refine ⟨ad, fun a o q => ?_, fun a o q => ?_, fun i s h1 h2 => ?_, I.inj, I.len, fun i s h1 => ?_, I.mono, by rw [vE]; exact I.tmp⟩
  · by_cases e : a = D
    · subst e; rw [upd_same] at q ⊢; exact q
    · rw [upd_ne e] at q ⊢; exact I.ext _ _ (by rw [upd_ne e]; exact q)
  · have hne : a ≠ D := by rintro rfl; rw [hG] at q; cases q
    have := I.sub _ _ q
    rw [upd_ne hne] at this ⊢; exact this
  · have := I.fr0 i s h1 h2
    rw [upd_ne (adD i s h1 h2)] at this ⊢; exact this
  · rw [vE]
    have h := I.sl i s h1
    by_cases ow : s.own = true
    · have hne := adD i s h1 ow
      cases s with
      | un => cases ow
      | fr d => cases ow
      | ow t ds => obtain ⟨b0, b1, ws, b2, b3⟩ := h; exact ⟨b0, b1, ws, by rw [upd_ne hne]; exact b2, b3⟩
      | oi t C ns ds => obtain ⟨b0, b1, dx, ws, b2, b3, b4⟩ := h; exact ⟨b0, b1, dx, ws, by rw [upd_ne hne]; exact b2, b3, b4⟩
      | od kvs => exact ⟨h.1, by rw [upd_ne hne]; exact h.2⟩
    · cases s with
      | un => exact h
      | fr d => exact h
      | ow t ds => exact absurd rfl ow
      | oi t C ns ds => exact absurd rfl ow
      | od kvs => exact absurd rfl ow
theorem Ok.hideEnd {D : Addr} {o1 : HO} (h0 : H0 D = none) (I : Ok K (upd H0 D o1) G T Δ σ H) (hG : G D = none) : Ok K H0 G T Δ σ (lessAt H D) := by
  obtain ⟨ad, I⟩ := I
  have hidE : ∀ a, a ≠ D → (Hid Δ ad (upd H0 D o1) G a ↔ Hid Δ ad H0 G a) := fun a h => by unfold Hid; rw [upd_ne h]
  have hidD : Hid Δ ad (upd H0 D o1) G D := .inr ⟨by rw [upd_same]; exact (fun z => by cases z), hG⟩
  have vE : vis Δ ad H0 G (lessAt H D) = vis Δ ad (upd H0 D o1) G H := by
    funext a
    by_cases e : a = D
    · subst e
      rw [vis_hid hidD]
      cases q : vis Δ ad H0 G (lessAt H a) a with
      | none => rfl
      | some o => have := (vis_some q).2; rw [lessAt_at] at this; cases this
    · by_cases q : Hid Δ ad H0 G a
      · rw [vis_hid q, vis_hid ((hidE a e).mpr q)]
      · rw [vis_no q, vis_no fun z => q ((hidE a e).mp z), lessAt_ne e]
  have adD : ∀ i s, Δ[i]? = some s → s.own = true → ad i ≠ D := fun i s h1 h2 z => by
    have := I.fr0 i s h1 h2; rw [z, upd_same] at this; cases this
  refine ⟨ad, fun a o q => ?_, fun a o q => ?_, fun i s h1 h2 => ?_, I.inj, I.len, fun i s h1 => ?_, I.mono, by rw [vE]; exact I.tmp⟩
  · have hne : a ≠ D := by rintro rfl; rw [h0] at q; cases q
    rw [lessAt_ne hne]
    exact I.ext _ _ (by rw [upd_ne hne]; exact q)
  · have hne : a ≠ D := by rintro rfl; rw [hG] at q; cases q
    have := I.sub _ _ q
    rw [upd_ne hne] at this; exact this
  · have := I.fr0 i s h1 h2
    rw [upd_ne (adD i s h1 h2)] at this; exact this
  · rw [vE]
    have h := I.sl i s h1
    by_cases ow : s.own = true
    · have hne := adD i s h1 ow
      cases s with
      | un => cases ow
      | fr d => cases ow
      | ow t ds => obtain ⟨b0, b1, ws, b2, b3⟩ := h; exact ⟨b0, b1, ws, by rw [lessAt_ne hne]; exact b2, b3⟩
      | oi t C ns ds => obtain ⟨b0, b1, dx, ws, b2, b3, b4⟩ := h; exact ⟨b0, b1, dx, ws, by rw [lessAt_ne hne]; exact b2, b3, b4⟩
      | od kvs => exact ⟨h.1, by rw [lessAt_ne hne]; exact h.2⟩
    · cases s with
      | un => exact h
      | fr d => exact h
      | ow t ds => exact absurd rfl ow
      | oi t C ns ds => exact absurd rfl ow
      | od kvs => exact absurd rfl ow
theorem Ok.at0 {D : Addr} {o1 : HO} (I : Ok K (upd H0 D o1) G T Δ σ H) : H D = some o1 := by
  obtain ⟨ad, I⟩ := I
  exact I.ext _ _ upd_same
theorem lessAt_upd {D : Addr} {o1 : HO} (h : H D = some o1) : upd (lessAt H D) D o1 = H := by
  funext a
  by_cases e : a = D
  · subst e; rw [upd_same, h]
  · rw [upd_ne e, lessAt_ne e]
/-- [e for target in .. (if ..)]: turn i gives f i if b i; nothing is changed -/
theorem el_lc {wi : TI} {g : TG} {vs : List Nat} {Δ0 : DE} (b : Nat → Bool) (f : Nat → DL.D) (hi : EvI K wi Δ ds Δ0) (hg : GNm g vs) (mg : GMono g) (hno : ∀ i ∈ vs, ∀ s, Δ0[i]? = some s → s.own = false) (hz : ds.length ≤ 50000)
    (hs : ∀ (i : Nat) (d : D), ds[i]? = some d → ∃ Δ', AsD K g (wipeD Δ0 vs) d Δ' ∧ wipeD Δ' vs = wipeD Δ0 vs ∧ EvT K tt Δ' (b i) Δ' ∧ (b i = true → EvD K te Δ' (f i) Δ')) :
    EvL K (tLc wi g tt te vs) Δ (((List.range ds.length).filter b).map f) Δ0 := fun H0 G T σ H I Q q => hi H0 G T σ H I _ fun J H1 I1 => by
  intro D hD
  obtain ⟨B, G1, R1, ⟨t1, gv⟩, gb, back⟩ := I1.rebase
  have mT : Mono T := I.mono
  have hlen := R1.len
  have b0 : B D = none := by
    cases z : B D with
    | none => rfl
    | some o =>
      obtain ⟨ad, r⟩ := R1
      have := r.ext _ _ z; rw [hD] at this; cases this
  have g0 : G1 D = none := by
    cases z : G1 D with
    | none => rfl
    | some o => have := gb _ _ z; rw [b0] at this; cases this
  let acc : Nat → List DL.D := fun i => ((List.range i).filter b).map f
  -- ahead of turn i
  let Sx : Nat → Hp → Prop := fun i H => ∃ ys, Ok K (upd B D (.lst ys)) G1 (fun F => T F ∧ RpL K F (acc i) ys) Δ0 σ H
  have alen : ∀ i, (acc i).length ≤ i := fun i => by
    show (((List.range i).filter b).map f).length ≤ i
    rw [List.length_map]
    exact Nat.le_trans (List.length_filter_le _ _) (by simp)
  refine ⟨fun i m H => i ≤ ds.length ∧ m = ds.length + 1 - i ∧ Sx i H, ⟨_, Nat.zero_le _, rfl, [], ?_⟩, ?_⟩
  · exact (R1.weak (mono_and mT mono_rpL) fun F t => ⟨t.1, (show RpL K F (acc 0) [] from rfl)⟩).hideNew hD
  rintro i m H ⟨hi', rfl, ys, R⟩
  have gH : Ex G1 H := by
    obtain ⟨F, e1, e2, _⟩ := R.open_
    exact e1.trans e2
  obtain ⟨v1, v2, v3⟩ := gv H gH i
  rcases Nat.lt_or_ge i ds.length with hlt | hge
  · refine .inr ⟨v1 hlt, Sx (i + 1), fun H' s => ⟨_, by omega, hlt, rfl, s⟩, fun v H2 y => ?_⟩
    have hd : ds[i]? = some ds[i] := List.getElem?_eq_getElem hlt
    obtain ⟨y1, y2⟩ := v2 _ hd v H2 y
    subst y1
    obtain ⟨Δ', as, wp, ht, he⟩ := hs i _ hd
    -- all that must come back
    let TT : Hp → Prop := fun F => (T F ∧ RpL K F (acc i) ys) ∧ SlFr K vs Δ0 σ F
    have mTT : Mono TT := mono_and (mono_and mT mono_rpL) slFr_mono
    have Rf : Ok K (upd B D (.lst ys)) G1 (fun F => TT F ∧ Rp K F ds[i] v) Δ0 σ H2 := by
      obtain ⟨F, e1, e2, t, mk, sl, _⟩ := R.open_
      exact mk _ (mono_and mTT mono_rp) ⟨⟨t, fun j _ d hj => sl j d hj⟩, y2.ex e1⟩
    have Rw := Rf.wipe vs
    have wf : ∀ τ : St, L2.wipe τ vs = L2.wipe (L2.wipe σ vs) vs → L2.wipe τ vs = L2.wipe σ vs := fun τ h => by
      rw [h]
      apply List.ext_getElem?
      intro k
      by_cases hk : k ∈ vs
      · have hw : ∀ (τ : St), (L2.wipe τ vs)[k]? = if k < τ.length then some none else none := fun τ => by
          clear h hno hg hs he as wp ht Rw Rf mTT TT
          induction vs with
          | nil => simp at hk
          | cons w ws ih =>
            show ((L2.wipe τ ws).set w none)[k]? = _
            rw [List.getElem?_set]
            by_cases ew : w = k
            · rw [if_pos ew, L2.wipe_length, ew]
            · rw [if_neg ew]
              exact ih ((List.mem_cons.mp hk).resolve_left fun z => ew z.symm)
        rw [hw, hw, L2.wipe_length]
      · rw [wipe_get hk]
    refine mg _ _ _ _ _ (fun σ2 H3 q3 => ?_) (hg _ _ _ _ (as _ _ TT v _ H2 mTT Rw (fun σ2 H3 => Ok K (upd B D (.lst ys)) G1 TT Δ' σ2 H3) fun _ _ r => r))
    obtain ⟨w3, r3⟩ := q3
    have w3' := wf σ2 w3
    refine ⟨w3', ht _ _ _ σ2 H3 r3 _ fun H4 r4 => ?_⟩
    have accS : b i = false → acc (i + 1) = acc i := fun hb => by
      show ((List.range (i + 1)).filter b).map f = ((List.range i).filter b).map f
      rw [List.range_succ, List.filter_append, List.filter_cons, hb]; simp
    have accT : b i = true → acc (i + 1) = acc i ++ [f i] := fun hb => by
      show ((List.range (i + 1)).filter b).map f = ((List.range i).filter b).map f ++ [f i]
      rw [List.range_succ, List.filter_append, List.filter_cons, hb]; simp
    cases hb : b i with
    | false =>
      refine iteF ⟨ys, ?_⟩
      rw [accS hb]
      exact r4.unwipe (mono_and mT mono_rpL) w3' wp (by simpa using hlen) hno
    | true =>
      refine iteT (he hb _ _ _ σ2 H4 r4 _ fun z H5 r5 => ⟨ys, r5.at0, ?_, ys ++ [z], ?_⟩)
      · obtain ⟨F, _, _, t, _⟩ := r5.open_
        rw [t.1.1.2.length]
        have := alen i
        exact Evl.sz_lt (by omega)
      · rw [accT hb]
        have r6 : Ok K (upd B D (.lst ys)) G1 (fun F => (T F ∧ RpL K F (acc i ++ [f i]) (ys ++ [z])) ∧ SlFr K vs Δ0 σ F) Δ' σ2 H5 := r5.weak (mono_and (mono_and mT mono_rpL) slFr_mono) fun F t => ⟨⟨t.1.1.1, t.1.1.2.append ⟨z, [], rfl, t.2, rfl⟩⟩, t.1.2⟩
        exact (r6.hideSet b0 g0).unwipe (mono_and mT mono_rpL) w3' wp (by simpa using hlen) hno
  · have e : i = ds.length := by omega
    subst e
    refine .inl ⟨v3 (Nat.le_refl _), ?_⟩
    have h1 := R.at0
    have fin := q D ys (lessAt H D) (back _ _ _ _ (R.hideEnd b0 g0)) lessAt_at
    rw [lessAt_upd h1] at fin
    exact fin
/-- without a test -/
theorem el_lcA {wi : TI} {g : TG} {vs : List Nat} {Δ0 : DE} (f : Nat → D) (hi : EvI K wi Δ ds Δ0) (hg : GNm g vs) (mg : GMono g) (hno : ∀ i ∈ vs, ∀ s, Δ0[i]? = some s → s.own = false) (hz : ds.length ≤ 50000)
    (hs : ∀ (i : Nat) (d : D), ds[i]? = some d → ∃ Δ', AsD K g (wipeD Δ0 vs) d Δ' ∧ wipeD Δ' vs = wipeD Δ0 vs ∧ EvD K te Δ' (f i) Δ') : EvL K (tLc wi g tYes te vs) Δ ((List.range ds.length).map f) Δ0 := by
  have h := el_lc (K := K) (tt := tYes) (te := te) (vs := vs) (fun _ => true) f hi hg mg hno hz fun i d hd => by
    obtain ⟨Δ', a, w, e⟩ := hs i d hd
    exact ⟨Δ', a, w, et_yes, fun _ => e⟩
  have e : (List.range ds.length).filter (fun _ => true) = List.range ds.length := List.filter_eq_self.mpr fun _ _ => rfl
  rw [e] at h
  exact h
/-! ### a def's body -/
theorem enter {n : Nat} {R : List D → D → Prop} {vs : List V} {Q : VK} {E : XK} {N : List Str} (h : spD K n R vs H Q E) (hN : n ≤ N.length)
    (hb : ∀ ds d, R ds d → ds.length = n → ExD K t (ds.map Sl.fr ++ List.replicate (N.length - n) .un) (.rt d) ∨ (d = .non ∧ ∃ Δ', ExD K t (ds.map Sl.fr ++ List.replicate (N.length - n) .un) (.nx Δ'))) :
    t { nx := fun _ H' => Q .non H', rt := Q } (L2.start N vs) H := by
  obtain ⟨hl, G, ds, d, hG, hv, hR, k⟩ := h
  have hdl : ds.length = n := by rw [← hv.length, hl]
  have I : Ok K H G (fun _ => True) (ds.map Sl.fr ++ List.replicate (N.length - n) .un) (L2.start N vs) H := by
    refine ⟨fun _ => 0, Evl.Ex.refl _, hG, fun i s h1 h2 => ?_, fun i j s u h1 h2 h3 h4 => ?_, by simp [L2.start, hl, hdl], fun i s h1 => ?_, mono_true, trivial⟩
    · rw [List.getElem?_append] at h1
      split at h1
      · rw [List.getElem?_map] at h1
        cases q : ds[i]? with
        | none => rw [q] at h1; cases h1
        | some d => rw [q] at h1; cases h1; cases h2
      · rw [List.getElem?_replicate] at h1
        split at h1
        · cases h1; cases h2
        · cases h1
    · rw [List.getElem?_append] at h1
      split at h1
      · rw [List.getElem?_map] at h1
        cases q : ds[i]? with
        | none => rw [q] at h1; cases h1
        | some d => rw [q] at h1; cases h1; cases h2
      · rw [List.getElem?_replicate] at h1
        split at h1
        · cases h1; cases h2
        · cases h1
    · have gv : Ex G (vis (ds.map Sl.fr ++ List.replicate (N.length - n) .un) (fun _ => 0) H G H) := fun a o q => by
        rw [vis_no]
        · exact hG _ _ q
        · rintro (⟨j, s, h1, h2, _⟩ | ⟨_, h2⟩)
          · rw [List.getElem?_append] at h1
            split at h1
            · rw [List.getElem?_map] at h1
              cases q : ds[j]? with
              | none => rw [q] at h1; cases h1
              | some d => rw [q] at h1; cases h1; cases h2
            · rw [List.getElem?_replicate] at h1
              split at h1
              · cases h1; cases h2
              · cases h1
          · rw [q] at h2; cases h2
      unfold L2.start
      rw [List.getElem?_append] at h1 ⊢
      rw [List.length_map] at h1 ⊢
      rw [hl]
      rw [hdl] at h1
      split at h1
      · rename_i hi
        rw [if_pos hi, List.getElem?_map]
        rw [List.getElem?_map] at h1
        cases q : ds[i]? with
        | none => rw [q] at h1; cases h1
        | some d =>
          rw [q] at h1; cases h1
          obtain ⟨v, k1, k2⟩ := hv.get q
          exact ⟨v, by rw [k1]; rfl, k2.ex gv⟩
      · rename_i hi
        rw [if_neg hi]
        rw [List.getElem?_replicate] at h1 ⊢
        split at h1
        · rename_i hj
          cases h1
          exact ⟨none, by rw [if_pos hj]⟩
        · cases h1
  have fin : ∀ v Δ' σ' H', Ok K H G (fun F => Rp K F d v) Δ' σ' H' → Q v H' := fun v Δ' σ' H' I' => by
    obtain ⟨ad, I'⟩ := I'
    exact k v H' _ ⟨I'.gvis, vis_sub, I'.ext, fun a h1 h2 => vis_hid (.inr ⟨h1, h2⟩)⟩ I'.tmp
  rcases hb ds d hR hdl with hb | ⟨rfl, Δ', hb⟩
  · exact hb H G _ H I _ fun v Δ' σ' H' I' => fin v Δ' σ' H' I'
  · exact hb H G _ H I _ fun σ' H' I' => fin .non Δ' σ' H' (I'.weak mono_rp fun _ _ => rfl)
end
end DL

set_option Elab.async false
set_option linter.all false
set_option maxRecDepth 100000
set_option maxHeartbeats 1000000
namespace DL
open PySem PySem.Spec PyProof.Rows L2
section
variable {X : Cx} {pos : Pos}
/-- a list or a tuple, walked -/
theorem pi_seq {tg l : Expr} {tl : TE} (hl : PE X l tl) : PI X tg l (iSeq X.K tl) := by
  refine ⟨fun pins s σ H R I h => ?_⟩
  refine thn (hl.run pins s σ H _ I h) fun v s1 ⟨x, H1, I1, r1, q1⟩ => ?_
  obtain ⟨a, e, q⟩ := q1
  subst e
  cases r1
  rcases q with ⟨⟨xs, hq⟩, q⟩ | ⟨⟨xs, hq⟩, q⟩
  · obtain ⟨its, rv, p, hz⟩ := I1.list hq
    refine wpAny_pyIter_list p.isList ?_
    refine ⟨s1.heap.objs.size, [s1.heap.objs.size], _, _, H1, rfl, I1.kept (t' := s1.toks) fun b o e => Heap.get?_push_of_some _ e, turn_list a _, ⟨_, Heap.get?_push_size _ rfl, rfl, rfl⟩, fun b hb => ?_, q⟩
    have e : b = s1.heap.objs.size := by simpa using hb
    subst e
    exact I1.fpOk (Nat.le_refl _) (I1.hok.fresh (Nat.le_refl _))
  · obtain ⟨its, rv, p, hz⟩ := I1.tuple hq
    refine wpAny_pyIter_tuple (show s1.heap.IsTuple a its.toArray from p) ?_
    refine ⟨s1.heap.objs.size, [s1.heap.objs.size], _, _, H1, rfl, I1.kept (t' := s1.toks) fun b o e => Heap.get?_push_of_some _ e, turn_tuple a _, ⟨_, Heap.get?_push_size _ rfl, rfl, rfl⟩, fun b hb => ?_, q⟩
    have e : b = s1.heap.objs.size := by simpa using hb
    subst e
    exact I1.fpOk (Nat.le_refl _) (I1.hok.fresh (Nat.le_refl _))
/-- o.f = .. as one of several targets -/
theorem pg_fld {o : Expr} {f : Str} {to : TE} (ho : PE X o to) : PG X (.Attribute o f pos) (gFld X.K to f) := by
  refine ⟨fun pins s σ H v u Q I r h => ?_⟩
  rw [assign_Attribute]
  refine wpAny_bind (wpAny_holding (thn (ho.run pins s σ H _ I h) fun ov s1 ⟨x, H1, I1, r1, q1⟩ => ?_))
  obtain ⟨a, C, dx, fs, rfl, ea, c, n, l, q2⟩ := q1
  obtain rfl : ov = Value.ref a := r1
  refine wpAny_bind (wpAny_standAt (wpAny_bind (wpAny_holding ?_)))
  exact setattr_ok I1 ea c n l r fun s3 I3 => wpAny_release ⟨σ, _, I3, q2⟩
/-- math.isqrt -/
def rIsq : List V → Hp → VK → Prop := fun vs H Q => ∃ a : Int, vs = [.int a] ∧ 0 ≤ a ∧ a.natAbs.log2 < 13000 ∧ Q (.int ((Float64.isqrt a.toNat : Nat) : Int)) H
theorem cr_isqrt : CallR X (.builtin "math.isqrt") rIsq := by
  intro pins s σ H vs us Q I r h
  obtain ⟨a, rfl, h0, h1, q⟩ := h
  obtain ⟨u, rfl, r1⟩ := r.one
  obtain ⟨t, rfl⟩ := r1
  have e : a.natAbs = a.toNat := by omega
  rw [e] at h1
  have g := PySem.W.mg_run_isqrt a t (by omega) (by omega) (by omega)
  exact call_function_meets PySem.W.MGF.kind_isqrt PySem.W.MGF.plain_isqrt PySem.W.MGF.entry_isqrt (PySem.W.MGF.args_isqrt _) g.meets ⟨.int _, H, I.tok _, ⟨_, rfl⟩, q⟩
variable {CX : CXT} {n : Nat} {C g : Addr} {sp : Sp} {E : XK}
/-- x op y, two instances of the class at C, whose def for op is at g -/
def rOwn2 (C : Addr) (sp : Sp) (E : XK) : R2 := fun x y H Q => ∃ a dx fs b dy gs, x = .ref a ∧ y = .ref b ∧ H a = some (.ins C dx fs) ∧ H b = some (.ins C dy gs) ∧ sp [x, y] H Q E
theorem op_own2 {op : Operator} (hc : PySem.W.selfFirst X.K C = true) (hs : PySem.W.findIn X.K (.ref C) (PySem.dunder op.info.2) = some (some (.ref g))) (hf : PySem.W.isFn X.K (.ref g) = true) (F : FnR X.prog X.w X.K X.mg X.base CX n g sp)
    (hr : Room n X.A) (hx : Passes CX X E) : OpR X (binaryOp op) (rOwn2 C sp E) := by
  intro pins s σ H x y v u Q I rx ry h
  obtain ⟨a, dx, fs, b, dy, gs, rfl, rfl, ha, hb, q⟩ := h
  cases (show v = Value.ref a from rx)
  cases (show u = Value.ref b from ry)
  obtain ⟨mA, O, _⟩ := ins_get I.hok ha
  obtain ⟨od, J, _⟩ := O.look
  obtain ⟨mB, O', _⟩ := ins_get I.hok hb
  obtain ⟨od', J', _⟩ := O'.look
  obtain ⟨m, hF⟩ := I.fr
  refine PySem.W.binop_K (op := op) hF I.ok.mod.kin J J'.type hc hs hf ?_
  refine wpAny_mono (wpAny_call (run_fnR (us := [.ref a, .ref b]) (vs := [.ref a, .ref b]) F hr hx I (.cons rfl (.cons rfl .nil)) q)) (fun w s' z => ?_) fun _ _ x => x
  obtain ⟨z', H', I', rz, qz⟩ := z
  exact SlX.cmpback rz ⟨z', H', I', rz, qz⟩
/-- -x of an instance -/
def rOwn1 (C : Addr) (sp : Sp) (E : XK) : V → Hp → VK → Prop := fun x H Q => ∃ a dx fs, x = .ref a ∧ H a = some (.ins C dx fs) ∧ sp [x] H Q E
theorem un_own {g : Addr} (hs : PySem.W.findIn X.K (.ref C) "__neg__" = some (some (.ref g))) (hf : PySem.W.isFn X.K (.ref g) = true) (F : FnR X.prog X.w X.K X.mg X.base CX n g sp) (hr : Room n X.A) (hx : Passes CX X E) : UnR X (unaryOp .USub) (rOwn1 C sp E) := by
  intro pins s σ H x v Q I rx h
  obtain ⟨a, dx, fs, rfl, ha, q⟩ := h
  cases (show v = Value.ref a from rx)
  obtain ⟨mA, O, _⟩ := ins_get I.hok ha
  obtain ⟨od, J, _⟩ := O.look
  obtain ⟨m, hF⟩ := I.fr
  refine PySem.W.ksp_neg hF I.ok.mod.kin J hs hf ?_
  exact wpAny_call (run_fnR (us := [.ref a]) (vs := [.ref a]) F hr hx I (.cons rfl .nil) q)
/-- C.m is a staticmethod: its record at p, its def at g -/
structure SMet (K : PySem.W.Frag) (C : Addr) (mc : Value) (m : Str) (p g : Addr) : Prop where
  at_ : PySem.W.findCls K (.ref C) mc m = some (.get (.builtin "staticmethod.__get__") (.ref p) .none (.ref C))
  rc : ∃ rest, PySem.W.recIn K p "staticmethod" = some (.ref g :: rest)
  kp : PySem.W.keepIn K (.ref g) = true
theorem getsm_ok {pins : List (Addr × Obj)} {σ : L2.St} {H : Hp} {s : Shared} {mc : Value} {m : Str} {p : Addr} {A : Around} {E : Value → Shared → Prop} {pl : Sem Bool} {Q : Value × List Value → Shared → Prop} (I : Inv X pins σ H s) (r : ClX.CRead X.K C mc) (k : SMet X.K C mc m p g)
    (h : ∀ s', Inv X pins σ H s' → Q (.ref g, []) s') : wpAny (model X.prog X.w) A (getMethod (.ref C) m pl) Q E s := by
  obtain ⟨rest, hp⟩ := k.rc
  refine PySem.W.method_cls I.kIn r.ga (PySem.W.cls_bind I.kIn r.rd k.at_ ?_)
  refine wpAny_call (PySem.W.sm_get (s := { s with toks := s.toks + 1 }) I.kIn hp (PySem.W.handed_on rfl ?_))
  exact h _ (I.tok _)
/-- C.m(..), m a staticmethod -/
def tSt (C : Addr) (sp : Sp) (E : XK) (ta : TE) (t : TA) : TE := fun σ H Q => ta σ H fun x H1 => x = .ref C ∧ t σ H1 fun vs H2 => sp vs H2 Q E
theorem pe_smeth {o e : Expr} {es : List Expr} {m : Str} {mc : Value} {p : Addr} {apos : Pos} {ta : TE} {t : TA} {pl : Sem Bool} (he : PE X o ta) (r : ClX.CRead X.K C mc) (c : SMet X.K C mc m p g) (F : FnR X.prog X.w X.K X.mg X.base CX n g sp) (hr : Room n X.A) (hx : Passes CX X E) (ha : PA X (e :: es) t)
    (hst : starEach (e :: es) X.env = (false, eval e X.env) :: starEach es X.env := by rfl) (hpl : (backTo pos (starEach es X.env)).any (·.1) = false := by rfl)
    (ht : eval (.Call (.Attribute o m apos) (e :: es) [] pos) X.env = (do
      let ov ← eval o X.env
      standAt apos.atName
      let (f, first) ← holding [ov] (getMethod ov m pl)
      callWith pos f first (backTo pos (starEach (e :: es) X.env)) (backToKw pos (keywordEach [] X.env))) := by rfl) :
    PE X (.Call (.Attribute o m apos) (e :: es) [] pos) (tSt C sp E ta t) := by
  refine ⟨fun pins s σ H Q I h => ?_⟩
  refine PySem.W.methodCall_KW (pl := pl) (thn (he.run pins s σ H _ I h) fun u s1 ⟨x, H1, I1, rx, ex, q⟩ => ?_) ht
  subst ex
  obtain rfl : u = Value.ref C := rx
  refine getsm_ok I1 r c fun s2 I2 => ?_
  refine PySem.W.callWith_K (h₀ := X.base) (first := []) I2.ok.mod.kin c.kp (thn (ha.run pos pins s2 σ H1 _ I2 q) fun us s3 ⟨vs, H2, I3, rv, q2⟩ => ⟨I3.kIn, ?_⟩) hst hpl
  exact wpAny_call (run_fnR F hr hx I3 rv q2)
theorem pe_smeth0 {o : Expr} {m : Str} {mc : Value} {p : Addr} {apos : Pos} {ta : TE} {pl : Sem Bool} (he : PE X o ta) (r : ClX.CRead X.K C mc) (c : SMet X.K C mc m p g) (F : FnR X.prog X.w X.K X.mg X.base CX n g sp) (hr : Room n X.A) (hx : Passes CX X E)
    (ht : eval (.Call (.Attribute o m apos) [] [] pos) X.env = (do
      let ov ← eval o X.env
      standAt apos.atName
      let (f, first) ← holding [ov] (getMethod ov m pl)
      callWith pos f first (backTo pos (starEach [] X.env)) (backToKw pos (keywordEach [] X.env))) := by rfl) :
    PE X (.Call (.Attribute o m apos) [] [] pos) (tSt C sp E ta tNil) := by
  refine ⟨fun pins s σ H Q I h => ?_⟩
  refine PySem.W.methodCall_KW (pl := pl) (thn (he.run pins s σ H _ I h) fun u s1 ⟨x, H1, I1, rx, ex, q⟩ => ?_) ht
  subst ex
  obtain rfl : u = Value.ref C := rx
  refine getsm_ok I1 r c fun s2 I2 => ?_
  exact PySem.W.callWith_K0 (first := []) I2.kIn c.kp (wpAny_call (run_fnR (us := []) (vs := []) F hr hx I2 .nil q))
end
section
variable {K : Frag} {H0 G H : Hp} {T : Hp → Prop} {σ : L2.St} {Δ Δ1 Δ2 Δ3 : DE} {ta tb te tc : TE} {tt tu : TT} {d x y : D} {ds es : List D} {o : Out} {t u : TS}
/-! ### the same by data -/
theorem ev_isqrt {a : Int} (h : EvD K ta Δ (.int a) Δ1) (h0 : 0 ≤ a) (h1 : a.natAbs.log2 < 13000) : EvD K (tCB rIsq (tCons ta tNil)) Δ (.int ((Float64.isqrt a.toNat : Nat) : Int)) Δ1 := fun H0 G T σ H I Q q => h H0 G T σ H I _ fun v H1 I1 => by
  obtain ⟨F, _, _, t, _⟩ := I1.open_
  have e : v = .int a := t.2
  subst e
  exact ⟨a, rfl, h0, h1, q _ H1 (I1.weak (mono_and I.mono mono_rp) fun F t => ⟨t.1, rfl⟩)⟩
theorem ev_gcd {a b : Int} (h : EvD K ta Δ (.int a) Δ1) (h' : EvD K tb Δ1 (.int b) Δ2) : EvD K (tCB rGcd (tCons ta (tCons tb tNil))) Δ (.int ((Nat.gcd a.natAbs b.natAbs : Nat) : Int)) Δ2 := fun H0 G T σ H I Q q => ev_two h h' I fun v w H' I' => by
  obtain ⟨F, _, _, t, _⟩ := I'.open_
  have e : v = .int a := t.1.2
  have e2 : w = .int b := t.2
  subst e e2
  exact ⟨a, b, rfl, q _ H' (I'.weak (mono_and I.mono mono_rp) fun F t => ⟨t.1.1, rfl⟩)⟩
theorem ev_own2 {R : List D → D → Prop} {n : Nat} {C : Addr} {ns ms : List Str} {E : XK} (ha : EvD K ta Δ (.ins C ns ds) Δ1) (hb : EvD K tb Δ1 (.ins C ms es) Δ2) (hn : 2 = n) (hR : R [.ins C ns ds, .ins C ms es] d) : EvD K (tOp (rOwn2 C (spD K n R) E) ta tb) Δ d Δ2 := fun H0 G T σ H I Q q => ev_two ha hb I fun v w H' I' => by
  obtain ⟨ad, J⟩ := I'
  obtain ⟨a, dx, vs, rfl, k1, k2, k3⟩ := J.tmp.1.2
  obtain ⟨b, dy, ws, rfl, l1, l2, l3⟩ := J.tmp.2
  refine ⟨a, dx, _, b, dy, _, rfl, rfl, vis_sub _ _ k1, vis_sub _ _ l1, hn, vis Δ2 ad H0 G H', [.ins C ns ds, .ins C ms es], d, vis_sub, ⟨_, _, rfl, J.tmp.1.2, _, _, rfl, J.tmp.2, rfl⟩, hR, fun v H2 F l r => q v H2 ⟨ad, ?_⟩⟩
  exact J.left l (mono_and I.mono mono_rp) fun t => ⟨t.1.1, r⟩
theorem ev_own1 {R : List D → D → Prop} {n : Nat} {C : Addr} {ns : List Str} {E : XK} (ha : EvD K ta Δ (.ins C ns ds) Δ1) (hn : 1 = n) (hR : R [.ins C ns ds] d) : EvD K (tUn (rOwn1 C (spD K n R) E) ta) Δ d Δ1 := fun H0 G T σ H I Q q => ha H0 G T σ H I _ fun v H1 I1 => by
  obtain ⟨ad, J⟩ := I1
  obtain ⟨a, dx, vs, rfl, k1, k2, k3⟩ := J.tmp.2
  refine ⟨a, dx, _, rfl, vis_sub _ _ k1, hn, vis Δ1 ad H0 G H1, [.ins C ns ds], d, vis_sub, ⟨_, _, rfl, J.tmp.2, rfl⟩, hR, fun v H2 F l r => q v H2 ⟨ad, ?_⟩⟩
  exact J.left l (mono_and I.mono mono_rp) fun t => ⟨t.1, r⟩
theorem ev_st {R : List D → D → Prop} {n : Nat} {C : Addr} {E : XK} {t : TA} (h : EvA K t Δ ds Δ1) (hn : ds.length = n) (hR : R ds d) : EvD K (tSt C (spD K n R) E (tC (.ref C)) t) Δ d Δ1 := fun H0 G T σ H I Q q => ⟨rfl, h H0 G T σ H I _ fun vs H1 I1 => by
  obtain ⟨ad, J⟩ := I1
  exact ⟨by rw [J.tmp.2.length]; exact hn, vis Δ1 ad H0 G H1, ds, d, vis_sub, J.tmp.2, hR, fun v H' F l r => q v H' ⟨ad, J.left l (mono_and I.mono mono_rp) fun t => ⟨t.1, r⟩⟩⟩⟩
/-- abs, max, int, divmod -/
theorem ev_abs {i : Int} (h : EvD K ta Δ (.int i) Δ1) : EvD K (tCB (fun xs H Q => ∃ i, xs = [V.int i] ∧ Q (.int (if i < 0 then -i else i)) H) (tCons ta tNil)) Δ (.int (if i < 0 then -i else i)) Δ1 := fun H0 G T σ H I Q q => h H0 G T σ H I _ fun v H1 I1 => by
  obtain ⟨F, _, _, t, _⟩ := I1.open_
  have e : v = .int i := t.2
  subst e
  exact ⟨i, rfl, q _ H1 (I1.weak (mono_and I.mono mono_rp) fun F t => ⟨t.1, rfl⟩)⟩
theorem ev_max2 {i j : Int} (h : EvD K ta Δ (.int i) Δ1) (h' : EvD K tb Δ1 (.int j) Δ2) : EvD K (tCB (fun xs H Q => ∃ i j, xs = [V.int i, V.int j] ∧ Q (.int (if j > i then j else i)) H) (tCons ta (tCons tb tNil))) Δ (.int (if j > i then j else i)) Δ2 := fun H0 G T σ H I Q q => ev_two h h' I fun v w H' I' => by
  obtain ⟨F, _, _, t, _⟩ := I'.open_
  have e : v = .int i := t.1.2
  have e2 : w = .int j := t.2
  subst e e2
  exact ⟨i, j, rfl, q _ H' (I'.weak (mono_and I.mono mono_rp) fun F t => ⟨t.1.1, rfl⟩)⟩
theorem ev_intI {i : Int} (h : EvD K ta Δ (.int i) Δ1) : EvD K (tCB (fun xs H Q => (∃ i, xs = [V.int i] ∧ Q (.int i) H) ∨ ∃ k, xs = [V.bl k] ∧ Q (.int (if k then 1 else 0)) H) (tCons ta tNil)) Δ (.int i) Δ1 := fun H0 G T σ H I Q q => h H0 G T σ H I _ fun v H1 I1 => by
  obtain ⟨F, _, _, t, _⟩ := I1.open_
  have e : v = .int i := t.2
  subst e
  exact .inl ⟨i, rfl, q _ H1 I1⟩
theorem ev_divmod {i j : Int} (h : EvD K ta Δ (.int i) Δ1) (h' : EvD K tb Δ1 (.int j) Δ2) (hc : CDiv i j) : EvD K (tCB (fun xs H Q => ∃ i j, xs = [V.int i, V.int j] ∧ CDiv i j ∧ ∀ p, H p = none → Q (.ref p) (upd H p (.tup [.int (i / j), .int (i % j)]))) (tCons ta (tCons tb tNil))) Δ (.tup [.int (i / j), .int (i % j)]) Δ2 := fun H0 G T σ H I Q q => ev_two h h' I fun v w H' I' => by
  obtain ⟨F, _, _, t, _⟩ := I'.open_
  have e : v = .int i := t.1.2
  have e2 : w = .int j := t.2
  subst e e2
  exact ⟨i, j, rfl, hc, fun p hp => q _ _ (I'.new hp (mono_and I.mono mono_rp) fun F F' t e k => ⟨I.mono _ _ e t.1.1, p, _, rfl, Evl.st_of k, _, _, rfl, rfl, _, _, rfl, rfl, rfl⟩)⟩
/-! ### == of data -/
mutual
def D.py : D → PyData
  | .non => .none
  | .bl b => .bool b
  | .int i => .int i
  | .str s => .str s
  | .tup xs => .tuple (D.pyL xs)
  | .lst xs => .list (D.pyL xs)
  | .ins _ _ _ => .none
  | .scr _ => .none
def D.pyL : List D → List PyData
  | [] => []
  | d :: ds => d.py :: D.pyL ds
end
mutual
def D.noIns : D → Bool
  | .tup xs => D.noInsL xs
  | .lst xs => D.noInsL xs
  | .ins _ _ _ => false
  | .scr _ => false
  | _ => true
def D.noInsL : List D → Bool
  | [] => true
  | d :: ds => d.noIns && D.noInsL ds
end
mutual
theorem rp_dp {F : Hp} : ∀ {d : D} {v : V}, d.noIns = true → Rp K F d v → Dp K F v d.py
  | .non, _, _, h => by cases (show _ = V.non from h); exact .non
  | .bl b, _, _, h => by cases (show _ = V.bl b from h); exact .bl b
  | .int i, _, _, h => by cases (show _ = V.int i from h); exact .int i
  | .str i, _, _, h => by cases (show _ = V.str i from h); exact .str i
  | .tup ds, _, n, h => by
    obtain ⟨a, vs, rfl, h2, h3⟩ := h
    exact .tup h2 (rpL_dp n h3)
  | .lst ds, _, n, h => by
    obtain ⟨a, vs, rfl, h2, h3⟩ := h
    exact .lst (Evl.sq_of h2) (rpL_dp n h3)
  | .ins _ _ _, _, n, _ => by cases n
  | .scr _, _, n, _ => by cases n
theorem rpL_dp {F : Hp} : ∀ {ds : List D} {vs : List V}, D.noInsL ds = true → RpL K F ds vs → DpAll K F vs (D.pyL ds)
  | [], _, _, h => by cases (show _ = [] from h); exact .nil
  | d :: ds, _, n, h => by
    obtain ⟨v, r, rfl, h2, h3⟩ := h
    have n' : (d.noIns && D.noInsL ds) = true := n
    rw [Bool.and_eq_true] at n'
    exact .cons (rp_dp n'.1 h2) (rpL_dp n'.2 h3)
end
mutual
theorem dp_ex {H H' : Hp} (e : Ex H H') : ∀ {v : V} {p : PyData}, Dp K H v p → Dp K H' v p
  | _, _, .non => .non
  | _, _, .bl b => .bl b
  | _, _, .int i => .int i
  | _, _, .str x => .str x
  | _, _, .lst h k => .lst (Evl.ex_l e h) (dpA_ex e k)
  | _, _, .tup h k => .tup (Evl.ex_t e h) (dpA_ex e k)
theorem dpA_ex {H H' : Hp} (e : Ex H H') : ∀ {vs : List V} {ps : List PyData}, DpAll K H vs ps → DpAll K H' vs ps
  | _, _, .nil => .nil
  | _, _, .cons h k => .cons (dp_ex e h) (dpA_ex e k)
end
theorem ev_eqD (ha : EvD K ta Δ x Δ1) (hb : EvD K tb Δ1 y Δ2) (nx : x.noIns = true) (ny : y.noIns = true) (sx : SeqAt.shaped x.py = true) (sy : SeqAt.shaped y.py = true) : EvD K (tOp (rEqD K) ta tb) Δ (.bl (PyData.eqv x.py y.py)) Δ2 := fun H0 G T σ H I Q q => ev_two ha hb I fun v w H' I' => by
  obtain ⟨F, _, e, t, _⟩ := I'.open_
  exact ⟨_, _, dp_ex e (rp_dp nx t.1.2), dp_ex e (rp_dp ny t.2), sx, sy, q _ H' (I'.weak (mono_and I.mono mono_rp) fun F t => ⟨t.1.1, rfl⟩)⟩
theorem ev_neD (ha : EvD K ta Δ x Δ1) (hb : EvD K tb Δ1 y Δ2) (nx : x.noIns = true) (ny : y.noIns = true) (sx : SeqAt.shaped x.py = true) (sy : SeqAt.shaped y.py = true) : EvD K (tOp (rNeD K) ta tb) Δ (.bl (!PyData.eqv x.py y.py)) Δ2 := fun H0 G T σ H I Q q => ev_two ha hb I fun v w H' I' => by
  obtain ⟨F, _, e, t, _⟩ := I'.open_
  exact ⟨_, _, dp_ex e (rp_dp nx t.1.2), dp_ex e (rp_dp ny t.2), sx, sy, q _ H' (I'.weak (mono_and I.mono mono_rp) fun F t => ⟨t.1.1, rfl⟩)⟩
end
end DL

set_option Elab.async false
set_option linter.all false
set_option maxRecDepth 100000
set_option maxHeartbeats 1000000
namespace DL
open PySem PySem.Spec PyProof.Rows L2
/-! ### f'{n:b}' -/
def BinT (i : Int) (y : Str) : Prop := ∀ t u, Meets (Builtin.«int.__format__» ⟨[.int i t, .str ("b" : Str) u], []⟩) (fun _ R s => ∀ t' k, R (.ok (.ret (.str y t'))) { s with toks := k })
open PySem.W PySem.Calls PyProof.Rows in
theorem bin2 : BinT 2 ("10" : Str) := fun t => by kxf_run_i
def tFmtB (te : TE) : TE := fun σ H Q => te σ H fun x H1 => ∃ i y, x = .int i ∧ BinT i y ∧ Q (.str y) H1
section
variable {X : Cx}
theorem pe_fmtB {e : Expr} {te : TE} {pos p1 p2 : Pos} {j : Nat} (he : PE X e te) : PE X (.FormattedValue e (-1) (some (.JoinedStr [.Constant (.str ("b" : Str)) j p1] p2)) pos) (tFmtB te) := by
  refine ⟨fun pins s σ H Q I h => ?_⟩
  refine wpAny_FormattedValue_spec (thn (he.run pins s σ H _ I h) fun v s1 hv => ?_)
  obtain ⟨x, H1, I1, r1, i, y, rfl, hb, q⟩ := hv
  obtain ⟨t, rfl⟩ := r1
  refine wpAny_JoinedStr_one (thn ((pe_str (X := X)).run pins s1 σ H1 (fun v H2 => v = .str "b" ∧ H2 = H1) I1 ⟨rfl, rfl⟩) fun r s2 hr => ?_)
  obtain ⟨x, H2, I2, r2, rfl, rfl⟩ := hr
  obtain ⟨tk, rfl⟩ := r2
  refine ⟨_, tk, rfl, ?_⟩
  exact PySem.W.KXf.field_int rfl (by decide) (by decide) (hb t) fun t' k => ⟨.str y, H2, I2.tok _, ⟨_, rfl⟩, q⟩
end
section
variable {K : Frag} {H0 G H : Hp} {T : Hp → Prop} {σ : L2.St} {Δ Δ1 Δ2 Δ3 : DE} {ta tb te tc : TE} {tt tu : TT} {d x y : D} {ds es : List D} {o : Out} {t u : TS}
theorem ev_fmtB {i : Int} {y : Str} (h : EvD K te Δ (.int i) Δ1) (hb : BinT i y) : EvD K (tFmtB te) Δ (.str y) Δ1 := fun H0 G T σ H I Q q => h H0 G T σ H I _ fun v H1 I1 => by
  obtain ⟨F, _, _, t, _⟩ := I1.open_
  have e : v = .int i := t.2
  subst e
  exact ⟨i, y, rfl, hb, q _ H1 (I1.weak (mono_and I.mono mono_rp) fun F t => ⟨t.1, rfl⟩)⟩
/-! ### a body whose first argument is its own -/
theorem enterM {n : Nat} {R : List D → List D → D → List D → Prop} {vs : List V} {Q : VK} {E : XK} {N : List Str} (h : spM K n R vs H Q E) (hN : n + 1 ≤ N.length)
    (hb : ∀ xs ds d xs', R xs ds d xs' → ds.length = n → ∀ p, ExD K t (.ow (some p) xs :: (ds.map Sl.fr ++ List.replicate (N.length - (n + 1)) .un)) (.rk d (.ow (some p) xs'))) :
    t { nx := fun _ H' => Q .non H', rt := Q } (L2.start N vs) H := by
  obtain ⟨hl, p, vs', ws, G, xs, ds, d, xs', rfl, hp, hGp, hG, hx, hv, hR, k⟩ := h
  have hvl : vs'.length = n := by simpa using hl
  have hdl : ds.length = n := by rw [← hv.length, hvl]
  let Δ0 : DE := .ow (some p) xs :: (ds.map Sl.fr ++ List.replicate (N.length - (n + 1)) .un)
  have ow : ∀ (i : Nat) (s : Sl), Δ0[i]? = some s → s.own = true → i = 0 ∧ s = .ow (some p) xs := fun i s h1 h2 => by
    cases i with
    | zero => exact ⟨rfl, (Option.some.inj h1).symm⟩
    | succ i =>
      have h1 : (ds.map Sl.fr ++ List.replicate (N.length - (n + 1)) .un)[i]? = some s := by simpa [Δ0] using h1
      rw [List.getElem?_append] at h1
      split at h1
      · rw [List.getElem?_map] at h1
        cases q : ds[i]? with
        | none => rw [q] at h1; cases h1
        | some d => rw [q] at h1; cases h1; cases h2
      · rw [List.getElem?_replicate] at h1
        split at h1
        · cases h1; cases h2
        · cases h1
  have hGl : Ex G (lessAt H p) := fun a o q => by
    rw [lessAt_ne (by rintro rfl; rw [hGp] at q; cases q)]; exact hG _ _ q
  have gv : Ex G (vis Δ0 (fun _ => p) (lessAt H p) G H) := fun a o q => by
    rw [vis_no]
    · exact hG _ _ q
    · rintro (⟨i, s, h1, h2, h3⟩ | ⟨_, h2⟩)
      · subst h3; rw [hGp] at q; cases q
      · rw [q] at h2; cases h2
  have I : Ok K (lessAt H p) G (fun _ => True) Δ0 (L2.start N (.ref p :: vs')) H := by
    refine ⟨fun _ => p, lessAt_ex, hGl, fun i s h1 h2 => lessAt_at, fun i j s u h1 h2 h3 h4 _ => (ow i s h1 h2).1.trans (ow j u h3 h4).1.symm, ?_, fun i s h1 => ?_, mono_true, trivial⟩
    · simp [L2.start, Δ0, hvl, hdl]
    · cases i with
      | zero =>
        cases (Option.some.inj h1 : Sl.ow (some p) xs = s)
        exact ⟨fun q z => (Option.some.inj z).symm, rfl, ws, hp, hx.ex gv⟩
      | succ i =>
        have h1 : (ds.map Sl.fr ++ List.replicate (N.length - (n + 1)) .un)[i]? = some s := by simpa [Δ0] using h1
        have e : (L2.start N (.ref p :: vs'))[i + 1]? = (vs'.map some ++ List.replicate (N.length - (n + 1)) none)[i]? := by
          unfold L2.start; simp [hvl]
        rw [e]
        rw [List.getElem?_append] at h1 ⊢
        rw [List.length_map] at h1 ⊢
        rw [hvl]
        rw [hdl] at h1
        split at h1
        · rename_i hi
          rw [if_pos hi, List.getElem?_map]
          rw [List.getElem?_map] at h1
          cases q : ds[i]? with
          | none => rw [q] at h1; cases h1
          | some d =>
            rw [q] at h1; cases h1
            obtain ⟨v, k1, k2⟩ := hv.get q
            exact ⟨v, by rw [k1]; rfl, k2.ex gv⟩
        · rename_i hi
          rw [if_neg hi]
          rw [List.getElem?_replicate] at h1 ⊢
          split at h1
          · rename_i hj
            cases h1
            exact ⟨none, by rw [if_pos hj]⟩
          · cases h1
  refine (hb xs ds d xs' hR hdl p) (lessAt H p) G _ H I _ fun v Δ' σ' H' h0 I' => ?_
  obtain ⟨ad, J⟩ := I'
  obtain ⟨w0, w1, ws', w2, w3⟩ := J.sl 0 _ h0
  have ep := w0 p rfl
  rw [← ep] at w2
  refine k v H' _ ws' J.gvis vis_sub (fun a o ha q => ?_) (fun a h1 h2 => ?_) w2 w3 J.tmp
  · exact J.ext _ _ (by rw [lessAt_ne ha]; exact q)
  · by_cases ha : a = p
    · subst ha; exact vis_hid (.inl ⟨0, _, h0, rfl, ep.symm⟩)
    · exact vis_hid (.inr ⟨by rw [lessAt_ne ha]; exact h1, h2⟩)
/-- __init__'s body -/
theorem enterI {n : Nat} {C : Addr} {R : List D → List Str → List D → Prop} {vs : List V} {Q : VK} {E : XK} {N : List Str} (h : spI K C n R vs H Q E) (hN : n + 1 ≤ N.length)
    (hb : ∀ ds ns xs, R ds ns xs → ds.length = n → ∀ x, ∃ Δ', Δ'[0]? = some (.oi x C ns xs) ∧ ExD K t (.oi x C [] [] :: (ds.map Sl.fr ++ List.replicate (N.length - (n + 1)) .un)) (.nx Δ')) :
    t { nx := fun _ H' => Q .non H', rt := Q } (L2.start N vs) H := by
  obtain ⟨hl, p, dx, vs', G, ds, ns, xs, rfl, hp, hGp, hG, hv, hR, k⟩ := h
  have hvl : vs'.length = n := by simpa using hl
  have hdl : ds.length = n := by rw [← hv.length, hvl]
  let Δ0 : DE := .oi p C [] [] :: (ds.map Sl.fr ++ List.replicate (N.length - (n + 1)) .un)
  have ow : ∀ (i : Nat) (s : Sl), Δ0[i]? = some s → s.own = true → i = 0 ∧ s = .oi p C [] [] := fun i s h1 h2 => by
    cases i with
    | zero => exact ⟨rfl, (Option.some.inj h1).symm⟩
    | succ i =>
      have h1 : (ds.map Sl.fr ++ List.replicate (N.length - (n + 1)) .un)[i]? = some s := by simpa [Δ0] using h1
      rw [List.getElem?_append] at h1
      split at h1
      · rw [List.getElem?_map] at h1
        cases q : ds[i]? with
        | none => rw [q] at h1; cases h1
        | some d => rw [q] at h1; cases h1; cases h2
      · rw [List.getElem?_replicate] at h1
        split at h1
        · cases h1; cases h2
        · cases h1
  have hGl : Ex G (lessAt H p) := fun a o q => by
    rw [lessAt_ne (by rintro rfl; rw [hGp] at q; cases q)]; exact hG _ _ q
  have gv : Ex G (vis Δ0 (fun _ => p) (lessAt H p) G H) := fun a o q => by
    rw [vis_no]
    · exact hG _ _ q
    · rintro (⟨i, s, h1, h2, h3⟩ | ⟨_, h2⟩)
      · subst h3; rw [hGp] at q; cases q
      · rw [q] at h2; cases h2
  have I : Ok K (lessAt H p) G (fun _ => True) Δ0 (L2.start N (.ref p :: vs')) H := by
    refine ⟨fun _ => p, lessAt_ex, hGl, fun i s h1 h2 => lessAt_at, fun i j s u h1 h2 h3 h4 _ => (ow i s h1 h2).1.trans (ow j u h3 h4).1.symm, ?_, fun i s h1 => ?_, mono_true, trivial⟩
    · simp [L2.start, Δ0, hvl, hdl]
    · cases i with
      | zero =>
        cases (Option.some.inj h1 : Sl.oi p C [] [] = s)
        exact ⟨rfl, rfl, dx, [], hp, rfl, rfl⟩
      | succ i =>
        have h1 : (ds.map Sl.fr ++ List.replicate (N.length - (n + 1)) .un)[i]? = some s := by simpa [Δ0] using h1
        have e : (L2.start N (.ref p :: vs'))[i + 1]? = (vs'.map some ++ List.replicate (N.length - (n + 1)) none)[i]? := by
          unfold L2.start; simp [hvl]
        rw [e]
        rw [List.getElem?_append] at h1 ⊢
        rw [List.length_map] at h1 ⊢
        rw [hvl]
        rw [hdl] at h1
        split at h1
        · rename_i hi
          rw [if_pos hi, List.getElem?_map]
          rw [List.getElem?_map] at h1
          cases q : ds[i]? with
          | none => rw [q] at h1; cases h1
          | some d =>
            rw [q] at h1; cases h1
            obtain ⟨v, k1, k2⟩ := hv.get q
            exact ⟨v, by rw [k1]; rfl, k2.ex gv⟩
        · rename_i hi
          rw [if_neg hi]
          rw [List.getElem?_replicate] at h1 ⊢
          split at h1
          · rename_i hj
            cases h1
            exact ⟨none, by rw [if_pos hj]⟩
          · cases h1
  obtain ⟨Δ', h0, hx⟩ := hb ds ns xs hR hdl p
  refine hx (lessAt H p) G _ H I _ fun σ' H' I' => ?_
  obtain ⟨ad, J⟩ := I'
  obtain ⟨w0, w1, dx', ws', w2, w3, w4⟩ := J.sl 0 _ h0
  have ep : ad 0 = p := w0.symm
  rw [ep] at w2
  refine k H' _ ws' dx' J.gvis vis_sub (fun a o ha q => ?_) (fun a h1 h2 => ?_) w2 w3 w4
  · exact J.ext _ _ (by rw [lessAt_ne ha]; exact q)
  · by_cases ha : a = p
    · subst ha; exact vis_hid (.inl ⟨0, _, h0, rfl, ep⟩)
    · exact vis_hid (.inr ⟨by rw [lessAt_ne ha]; exact h1, h2⟩)
end
end DL

set_option Elab.async false
set_option linter.all false
set_option maxRecDepth 100000
set_option maxHeartbeats 1000000
namespace DL
open PySem PySem.Spec PyProof.Rows L2
/-! ### what a text's names are -/
/-- the module's name x is a def that keeps the promise -/
structure Fn (P : Program) (w : World) (K : Frag) (mg : Str → Option Value) (base : Heap) (x : Str) (n : Nat) (sp : Sp) : Prop where
  ex : ∃ f, mg x = some (.ref f) ∧ PySem.W.keepIn K (.ref f) = true ∧ FnR P w K mg base CX0 n f sp
/-- a method of the class at C -/
structure Me (P : Program) (w : World) (K : Frag) (mg : Str → Option Value) (base : Heap) (C : Addr) (m : Str) (n : Nat) (sp : Sp) : Prop where
  ex : ∃ f, Meth K C m f ∧ FnR P w K mg base CX0 n f sp
/-- the class x, at C, with its __init__ -/
structure Mkr (P : Program) (w : World) (K : Frag) (mg : Str → Option Value) (base : Heap) (x : Str) (C : Addr) (n : Nat) (sp : Sp) : Prop where
  ex : ∃ f, mg x = some (.ref C) ∧ Mk K C f ∧ FnR P w K mg base CX0 n f sp
/-- a static method -/
structure Sm (P : Program) (w : World) (K : Frag) (mg : Str → Option Value) (base : Heap) (C : Addr) (m : Str) (n : Nat) (sp : Sp) : Prop where
  ex : ∃ f p mc, ClX.CRead K C mc ∧ SMet K C mc m p f ∧ FnR P w K mg base CX0 n f sp
/-- an operator of the class -/
structure Op2 (P : Program) (w : World) (K : Frag) (mg : Str → Option Value) (base : Heap) (C : Addr) (op : Operator) (n : Nat) (sp : Sp) : Prop where
  ex : ∃ f, PySem.W.selfFirst K C = true ∧ PySem.W.findIn K (.ref C) (PySem.dunder op.info.2) = some (some (.ref f)) ∧ PySem.W.isFn K (.ref f) = true ∧ FnR P w K mg base CX0 n f sp
structure Op1 (P : Program) (w : World) (K : Frag) (mg : Str → Option Value) (base : Heap) (C : Addr) (n : Nat) (sp : Sp) : Prop where
  ex : ∃ f, PySem.W.findIn K (.ref C) "__neg__" = some (some (.ref f)) ∧ PySem.W.isFn K (.ref f) = true ∧ FnR P w K mg base CX0 n f sp
section
variable {X : Cx} {pos : Pos} {n : Nat} {sp : Sp} {x : Str} {p apos : Pos} {e o : Expr} {es : List Expr} {ta : TE} {t : TA} {C : Addr} {m : Str}
theorem pe_fn (F : Fn X.prog X.w X.K X.mg X.base x n sp) (hr : Room n X.A) (hg : Gl X x) (ha : PA X (e :: es) t) (hdb : (x == ("__debug__" : Str)) = false := by decide)
    (he : starEach (e :: es) X.env = (false, eval e X.env) :: starEach es X.env := by rfl) (hpl : (backTo pos (starEach es X.env)).any (·.1) = false := by rfl) : PE X (.Call (.Name x p) (e :: es) [] pos) (tCall sp [] E0 t) := by
  obtain ⟨f, hm, hk, F⟩ := F.ex
  refine ⟨fun pins s σ H Q I h => ?_⟩
  refine wpAny_Call_Name_kw (ld_glob I hg hm ?_ hdb)
  refine PySem.W.callWith_K (h₀ := X.base) I.ok.mod.kin hk (thn (ha.run pos pins s σ H _ I h) fun us s1 ⟨vs, H1, I1, r, q⟩ => ⟨I1.kIn, ?_⟩) he hpl
  have q : sp (vs ++ []) H1 Q E0 := q
  rw [List.append_nil] at q
  exact wpAny_call (run_fnR F hr pass0 I1 r q)
theorem pe_me {pl : Sem Bool} (F : Me X.prog X.w X.K X.mg X.base C m n sp) (hr : Room n X.A) (c : Cls X.K C) (he : PE X o ta) (ha : PA X (e :: es) t)
    (hst : starEach (e :: es) X.env = (false, eval e X.env) :: starEach es X.env := by rfl) (hpl : (backTo pos (starEach es X.env)).any (·.1) = false := by rfl)
    (ht : eval (.Call (.Attribute o m apos) (e :: es) [] pos) X.env = (do
      let ov ← eval o X.env
      standAt apos.atName
      let (f, first) ← holding [ov] (getMethod ov m pl)
      callWith pos f first (backTo pos (starEach (e :: es) X.env)) (backToKw pos (keywordEach [] X.env))) := by rfl) :
    PE X (.Call (.Attribute o m apos) (e :: es) [] pos) (tMeth C m sp [] E0 ta t) := by
  obtain ⟨f, hm, F⟩ := F.ex
  refine ⟨fun pins s σ H Q I h => ?_⟩
  refine PySem.W.methodCall_KW (pl := pl) (thn (he.run pins s σ H _ I h) fun u s1 ⟨x, H1, I1, rx, a, dx, fs, ex, ea, l, q⟩ => ?_) ht
  subst ex
  obtain rfl : u = Value.ref a := rx
  refine getmeth_ok I1 ea c hm l ?_
  refine PySem.W.callWith_K (first := [.ref a]) (h₀ := X.base) I.ok.mod.kin hm.kp (thn (ha.run pos pins s1 σ H1 _ I1 q) fun us s2 ⟨vs, H2, I2, r, q2⟩ => ⟨I2.kIn, ?_⟩) hst hpl
  have q2 : sp (V.ref a :: (vs ++ [])) H2 Q E0 := q2
  rw [List.append_nil] at q2
  exact wpAny_call (run_fnR (us := .ref a :: us) (vs := .ref a :: vs) F hr pass0 I2 (.cons rfl r) q2)
theorem pe_me0 {pl : Sem Bool} (F : Me X.prog X.w X.K X.mg X.base C m n sp) (hr : Room n X.A) (c : Cls X.K C) (he : PE X o ta)
    (ht : eval (.Call (.Attribute o m apos) [] [] pos) X.env = (do
      let ov ← eval o X.env
      standAt apos.atName
      let (f, first) ← holding [ov] (getMethod ov m pl)
      callWith pos f first (backTo pos (starEach [] X.env)) (backToKw pos (keywordEach [] X.env))) := by rfl) :
    PE X (.Call (.Attribute o m apos) [] [] pos) (tMeth C m sp [] E0 ta tNil) := by
  obtain ⟨f, hm, F⟩ := F.ex
  refine ⟨fun pins s σ H Q I h => ?_⟩
  refine PySem.W.methodCall_KW (pl := pl) (thn (he.run pins s σ H _ I h) fun u s1 ⟨x, H1, I1, rx, a, dx, fs, ex, ea, l, q⟩ => ?_) ht
  subst ex
  obtain rfl : u = Value.ref a := rx
  refine getmeth_ok I1 ea c hm l ?_
  exact PySem.W.callWith_K0 (first := [.ref a]) I1.kIn hm.kp (wpAny_call (run_fnR (us := [.ref a]) (vs := [.ref a]) F hr pass0 I1 (.cons rfl .nil) q))
theorem pe_mkr (M : Mkr X.prog X.w X.K X.mg X.base x C n sp) (hr : Room (n + 1) X.A) (hg : Gl X x) (ha : PA X (e :: es) t) (hdb : (x == ("__debug__" : Str)) = false := by decide)
    (he : starEach (e :: es) X.env = (false, eval e X.env) :: starEach es X.env := by rfl) (hpl : (backTo pos (starEach es X.env)).any (·.1) = false := by rfl) : PE X (.Call (.Name x p) (e :: es) [] pos) (tMake C sp [] E0 t) := by
  obtain ⟨f, hm, M, F⟩ := M.ex
  refine ⟨fun pins s σ H Q I h => ?_⟩
  refine wpAny_Call_Name_kw (ld_glob I hg hm ?_ hdb)
  refine PySem.W.callWith_K (h₀ := X.base) I.ok.mod.kin M.kp (thn (ha.run pos pins s σ H _ I h) fun us s1 ⟨vs, H1, I1, r, q⟩ => ⟨I1.kIn, ?_⟩) he hpl
  have hq := q (s1.heap.objs.size + 1) s1.heap.objs.size (I1.hok.fresh (Nat.le_succ _)) (I1.hok.fresh (Nat.le_refl _)) (Nat.ne_of_lt (Nat.lt_succ_self _))
  rw [List.append_nil] at hq
  have I2 := Inv.made (C := C) I1
  refine wpAny_call (make_map (f := f) I1.kIn M.makes M.init (beq_iff_eq.mp M.fn) (codeAny_mono (F _ X.stack _ _ (Value.ref (s1.heap.objs.size + 1) :: us) (V.ref (s1.heap.objs.size + 1) :: vs) _ E0 (hr.make C us []) (I2.env0.make C us []) (.cons rfl r) hq) fun r s' hq' => ?_))
  cases r with
  | error e => exact hq'.elim
  | ok fl =>
    cases fl with
    | ret u =>
      obtain ⟨v, H', I3, rv, ev, q3⟩ := I2.after hq'
      subst ev
      exact ⟨rv, ⟨V.ref (s1.heap.objs.size + 1), H', I3, rfl, q3⟩⟩
    | next => exact False.elim hq'
    | brk => exact False.elim hq'
    | cont => exact False.elim hq'
theorem pe_sm {pl : Sem Bool} {ta : TE} (F : Sm X.prog X.w X.K X.mg X.base C m n sp) (hr : Room n X.A) (he : PE X o (tC (.ref C))) (ha : PA X (e :: es) t)
    (hst : starEach (e :: es) X.env = (false, eval e X.env) :: starEach es X.env := by rfl) (hpl : (backTo pos (starEach es X.env)).any (·.1) = false := by rfl)
    (ht : eval (.Call (.Attribute o m apos) (e :: es) [] pos) X.env = (do
      let ov ← eval o X.env
      standAt apos.atName
      let (f, first) ← holding [ov] (getMethod ov m pl)
      callWith pos f first (backTo pos (starEach (e :: es) X.env)) (backToKw pos (keywordEach [] X.env))) := by rfl) : PE X (.Call (.Attribute o m apos) (e :: es) [] pos) (tSt C sp E0 (tC (.ref C)) t) := by
  obtain ⟨f, p, mc, r, c, F⟩ := F.ex
  exact pe_smeth he r c F hr pass0 ha hst hpl ht
theorem pe_sm0 {pl : Sem Bool} (F : Sm X.prog X.w X.K X.mg X.base C m n sp) (hr : Room n X.A) (he : PE X o (tC (.ref C)))
    (ht : eval (.Call (.Attribute o m apos) [] [] pos) X.env = (do
      let ov ← eval o X.env
      standAt apos.atName
      let (f, first) ← holding [ov] (getMethod ov m pl)
      callWith pos f first (backTo pos (starEach [] X.env)) (backToKw pos (keywordEach [] X.env))) := by rfl) : PE X (.Call (.Attribute o m apos) [] [] pos) (tSt C sp E0 (tC (.ref C)) tNil) := by
  obtain ⟨f, p, mc, r, c, F⟩ := F.ex
  exact pe_smeth0 he r c F hr pass0 ht
theorem op_op2 {op : Operator} (F : Op2 X.prog X.w X.K X.mg X.base C op n sp) (hr : Room n X.A) : OpR X (binaryOp op) (rOwn2 C sp E0) := by
  obtain ⟨f, a, b, c, F⟩ := F.ex
  exact op_own2 a b c F hr pass0
theorem un_op1 (F : Op1 X.prog X.w X.K X.mg X.base C n sp) (hr : Room n X.A) : UnR X (unaryOp .USub) (rOwn1 C sp E0) := by
  obtain ⟨f, b, c, F⟩ := F.ex
  exact un_own b c F hr pass0
theorem call_lenA : CallR X (.builtin "len") (rLenA X.K) := call_len_seq
theorem call_listA : CallR X (.type "list") (rListA X.K) := call_list_of
theorem call_tupA : CallR X (.type "tuple") (rTupA X.K) := call_tuple_of
theorem sl_any : SlR X (rSlAny X.K) := sl_list.or sl_tupA
end
section
variable {K : Frag} {H0 G H : Hp} {T : Hp → Prop} {σ : L2.St} {Δ Δ1 Δ2 Δ3 : DE} {ta tb te tc : TE} {tt tu : TT} {d x y : D} {ds es : List D} {o : Out} {t u : TS} {i j : Int}
/-! ### operators, one by one -/
theorem ev_add (ha : EvD K ta Δ (.int i) Δ1) (hb : EvD K tb Δ1 (.int j) Δ2) : EvD K (tOp (rI0 fun i j => .int (i + j)) ta tb) Δ (.int (i + j)) Δ2 := ev_I0 (g := fun i j => i + j) ha hb
theorem ev_sub (ha : EvD K ta Δ (.int i) Δ1) (hb : EvD K tb Δ1 (.int j) Δ2) : EvD K (tOp (rI0 fun i j => .int (i - j)) ta tb) Δ (.int (i - j)) Δ2 := ev_I0 (g := fun i j => i - j) ha hb
theorem ev_mul (ha : EvD K ta Δ (.int i) Δ1) (hb : EvD K tb Δ1 (.int j) Δ2) (hc : CMulW i j) : EvD K (tOp (rI CMulW fun i j => .int (i * j)) ta tb) Δ (.int (i * j)) Δ2 := ev_I (g := fun i j => i * j) ha hb hc
theorem ev_fdiv (ha : EvD K ta Δ (.int i) Δ1) (hb : EvD K tb Δ1 (.int j) Δ2) (hc : CDivW i j) : EvD K (tOp (rI CDivW fun i j => .int (i / j)) ta tb) Δ (.int (i / j)) Δ2 := ev_I (g := fun i j => i / j) ha hb hc
theorem ev_mod (ha : EvD K ta Δ (.int i) Δ1) (hb : EvD K tb Δ1 (.int j) Δ2) (hc : 0 < j) : EvD K (tOp (rI (fun _ j => 0 < j) fun i j => .int (i % j)) ta tb) Δ (.int (i % j)) Δ2 := ev_I (g := fun i j => i % j) (C := fun _ j => 0 < j) ha hb hc
theorem ev_pow (ha : EvD K ta Δ (.int i) Δ1) (hb : EvD K tb Δ1 (.int j) Δ2) (hc : CPow i j) : EvD K (tOp (rI CPow fun i j => .int (i ^ j.toNat)) ta tb) Δ (.int (i ^ j.toNat)) Δ2 := ev_I (g := fun i j => i ^ j.toNat) ha hb hc
theorem ev_lt (ha : EvD K ta Δ (.int i) Δ1) (hb : EvD K tb Δ1 (.int j) Δ2) : EvD K (tOp (rI0 fun i j => .bl (decide (i < j))) ta tb) Δ (.bl (decide (i < j))) Δ2 := ev_B0 (g := fun i j => decide (i < j)) ha hb
theorem ev_le (ha : EvD K ta Δ (.int i) Δ1) (hb : EvD K tb Δ1 (.int j) Δ2) : EvD K (tOp (rI0 fun i j => .bl (decide (i ≤ j))) ta tb) Δ (.bl (decide (i ≤ j))) Δ2 := ev_B0 (g := fun i j => decide (i ≤ j)) ha hb
theorem ev_gt (ha : EvD K ta Δ (.int i) Δ1) (hb : EvD K tb Δ1 (.int j) Δ2) : EvD K (tOp (rI0 fun i j => .bl (decide (j < i))) ta tb) Δ (.bl (decide (j < i))) Δ2 := ev_B0 (g := fun i j => decide (j < i)) ha hb
theorem ev_ge (ha : EvD K ta Δ (.int i) Δ1) (hb : EvD K tb Δ1 (.int j) Δ2) : EvD K (tOp (rI0 fun i j => .bl (decide (j ≤ i))) ta tb) Δ (.bl (decide (j ≤ i))) Δ2 := ev_B0 (g := fun i j => decide (j ≤ i)) ha hb
/-- a raise that is not reached -/
theorem x_guard {b : Bool} (h : EvT K tt Δ b Δ1) (e : b = false) : ExD K (tIfS tt tNever tNext) Δ (.nx Δ1) := by
  subst e
  exact x_if_f h x_next
theorem ev_call' {R : List D → D → Prop} {n : Nat} {E : XK} {t : TA} (h : EvA K t Δ ds Δ1) (hn : ds.length = n) (hR : R ds d) : EvD K (tCall (spD K n R) [] E t) Δ d Δ1 := ev_call (dds := []) h (fun _ => rfl) (by simpa using hn) (by rw [List.append_nil]; exact hR)
theorem ev_meth' {R : List D → D → Prop} {n : Nat} {C : Addr} {ns : List Str} {xs : List D} {m : Str} {E : XK} {t : TA} (ha : EvD K ta Δ (.ins C ns xs) Δ1) (h : EvA K t Δ1 ds Δ2) (hm : (ns.zip xs).lookup m = none) (hn : ds.length + 1 = n) (hR : R (.ins C ns xs :: ds) d) : EvD K (tMeth C m (spD K n R) [] E ta t) Δ d Δ2 :=
  ev_meth (dds := []) ha hm h (fun _ => rfl) (by simpa using hn) (by rw [List.append_nil]; exact hR)
theorem ev_make' {R : List D → List Str → List D → Prop} {n : Nat} {C : Addr} {ns : List Str} {xs : List D} {E : XK} {t : TA} (h : EvA K t Δ ds Δ1) (hn : ds.length = n) (hR : R ds ns xs) : EvD K (tMake C (spI K C n R) [] E t) Δ (.ins C ns xs) Δ1 :=
  ev_make (dds := []) h (fun _ => rfl) (by simpa using hn) (by rw [List.append_nil]; exact hR)
/-! ### isinstance -/
/-- the class of a value -/
def D.ty : D → Value
  | .non => .type "NoneType"
  | .bl _ => .type "bool"
  | .int _ => .type "int"
  | .str _ => .type "str"
  | .tup _ => .type "tuple"
  | .lst _ => .type "list"
  | .ins C _ _ => .ref C
  | .scr _ => .none
/-- what isinstance asks of an own class -/
structure Isi (K : Frag) (C : Addr) : Prop where
  cl : Cls K C
  ha : PySem.W.findIn K (.ref C) "__class__" = some (some (.builtin "object.__class__"))
  hn : PySem.W.specialIn K (.builtin "object.__class__") "__get__" = some (some (.builtin "getset_descriptor.__get__"))
  htk : PySem.W.takesIn K (.builtin "object.__class__") = some true
  hm : PySem.W.mroIn K C (.type "object") = some true
def D.isiOk (K : Frag) : D → Prop
  | .ins C _ _ => Isi K C
  | .scr _ => False
  | _ => True
theorem rp_ty {F : Hp} {v : V} (h : Rp K F d v) (k : d.isiOk K) : TyX K F v d.ty := by
  cases d with
  | non => cases (show v = .non from h); exact .base .non
  | bl b => cases (show v = .bl b from h); exact .base (.bl b)
  | int b => cases (show v = .int b from h); exact .base (.int b)
  | str b => cases (show v = .str b from h); exact .base (.str b)
  | tup xs =>
    obtain ⟨a, vs, rfl, h2, _⟩ := h
    rcases h2 with (h2 | ⟨o, h2⟩) | ⟨o, its, n, h2, h3, _⟩
    · exact .base (.tup h2)
    · exact .fTuple h2
    · exact .kTuple h2 h3
  | lst xs => obtain ⟨a, vs, rfl, h2, _⟩ := h; exact .base (.lst h2)
  | ins C ns xs => obtain ⟨a, dx, vs, rfl, h2, _⟩ := h; exact .base (.ins h2 k.cl k.ha k.hn k.htk k.hm)
  | scr ns => exact k.elim
theorem tyX_ex {F F' : Hp} (e : Ex F F') {v : V} {t : Value} (h : TyX K F v t) : TyX K F' v t := by
  cases h with
  | base b =>
    cases b with
    | non => exact .base .non
    | bl x => exact .base (.bl x)
    | int x => exact .base (.int x)
    | str x => exact .base (.str x)
    | flt x => exact .base (.flt x)
    | lst q => exact .base (.lst (e _ _ q))
    | frz q => exact .base (.frz (e _ _ q))
    | tup q => exact .base (.tup (e _ _ q))
    | dK q => exact .base (.dK (e _ _ q))
    | dT q => exact .base (.dT (e _ _ q))
    | ins q a b c d f => exact .base (.ins (e _ _ q) a b c d f)
  | byt b => exact .byt b
  | set q => exact .set (e _ _ q)
  | kList q c => exact .kList q c
  | kTuple q c => exact .kTuple q c
  | kDict q c => exact .kDict q c
  | fTuple q => exact .fTuple (e _ _ q)
  | fDict q => exact .fDict (e _ _ q)
theorem ev_isi {c : V} {uc : Value} {b : Bool} (ha : EvD K ta Δ x Δ1) (k : x.isiOk K) (hc : ClsV c uc) (hk : PySem.W.kitOne K x.ty uc = some b) : EvD K (tCB (rIsi K) (tCons ta (tCons (tC c) tNil))) Δ (.bl b) Δ1 := fun H0 G T σ H I Q q => ha H0 G T σ H I _ fun v H1 I1 => by
  obtain ⟨F, _, e, t, _⟩ := I1.open_
  exact ⟨v, c, _, uc, b, rfl, hc, tyX_ex e (rp_ty t.2 k), hk, q _ H1 (I1.weak (mono_and I.mono mono_rp) fun F t => ⟨t.1, rfl⟩)⟩
end
end DL

set_option linter.all false
set_option maxRecDepth 100000
namespace DL
open PySem PySem.Spec PyProof.Rows L2
/-! ### a function that hands out two lists of its own and a number, in a tuple -/
structure WP (K : Frag) (G H : Hp) (l1 l2 : List D) (z : Int) (t p1 p2 : Addr) (v1 v2 : List V) (H' F : Hp) : Prop where
  gf : Ex G F
  fh : Ex F H'
  hh : Ex H H'
  hid : ∀ a, H a ≠ none → G a = none → F a = none
  tt : H' t = some (.tup [.ref p1, .ref p2, .int z])
  a1 : H' p1 = some (.lst v1)
  n1 : H p1 = none
  f1 : F p1 = none
  r1 : RpL K F l1 v1
  a2 : H' p2 = some (.lst v2)
  n2 : H p2 = none
  f2 : F p2 = none
  r2 : RpL K F l2 v2
  ne : p1 ≠ p2
def spW (K : Frag) (n : Nat) (R : List D → List D → List D → Int → Prop) : Sp := fun vs H Q _ => vs.length = n ∧ ∃ (G : Hp) (ds l1 l2 : List D) (z : Int), Ex G H ∧ RpL K G ds vs ∧ R ds l1 l2 z ∧ ∀ t p1 p2 v1 v2 H' F, WP K G H l1 l2 z t p1 p2 v1 v2 H' F → Q (.ref t) H'
def WR (K : Frag) (l1 l2 : List D) (z : Int) : Hp → Hp → V → Hp → Prop := fun H0 G v H' => ∃ t p1 p2 v1 v2 F, v = .ref t ∧ WP K G H0 l1 l2 z t p1 p2 v1 v2 H' F
section
variable {K : Frag} {H0 G H : Hp} {T : Hp → Prop} {σ : L2.St} {Δ Δ1 Δ2 Δ3 : DE} {ta tb te tc : TE} {tt tu : TT} {d x y : D} {ds es : List D} {o : Out} {t u : TS} {R : Hp → Hp → V → Hp → Prop}
theorem x_seq_rp (h : ExD K t Δ (.rp R)) : ExD K (tSeq t u) Δ (.rp R) := fun H0 G σ H I E p => h H0 G σ H I _ p
theorem x_while_rp {n : Nat} (I : Nat → DE) (hs : ∀ i, i < n → EvT K tt (I i) true (I i) ∧ ExD K t (I i) (.nx (I (i + 1)))) (he : EvT K tt (I n) true (I n) ∧ ExD K t (I n) (.rp R)) : ExD K (tWhile tt t) (I 0) (.rp R) := fun H0 G σ H J E p => by
  refine ⟨fun m σ' H' => ∃ i, i ≤ n ∧ m = n - i ∧ Ok K H0 G (fun _ => True) (I i) σ' H', ⟨n, 0, Nat.zero_le _, rfl, J⟩, ?_⟩
  rintro m σ' H' ⟨i, hi, rfl, R⟩
  rcases Nat.lt_or_ge i n with hlt | hge
  · obtain ⟨h1, h2⟩ := hs i hlt
    refine h1 H0 G _ σ' H' R _ fun H1 I1 => iteT ⟨fun σ2 H2 => Ok K H0 G (fun _ => True) (I (i + 1)) σ2 H2, fun σ2 H2 r => ⟨n - (i + 1), by omega, i + 1, by omega, rfl, r⟩, ?_⟩
    exact h2 H0 G σ' H1 I1 _ fun _ _ r => r
  · have e : i = n := by omega
    subst e
    obtain ⟨h1, h2⟩ := he
    refine h1 H0 G _ σ' H' R _ fun H1 I1 => iteT ⟨fun _ _ => False, fun σ2 H2 r => r.elim, ?_⟩
    exact h2 H0 G σ' H1 I1 _ p
theorem x_retW {i j k : Nat} {t1 t2 : Option Addr} {l1 l2 : List D} {z : Int} (hi : Δ[i]? = some (.ow t1 l1)) (hj : Δ[j]? = some (.ow t2 l2)) (hk : Δ[k]? = some (.fr (.int z))) (hij : i ≠ j) :
    ExD K (tRet (tTup (tCons (tVar i) (tCons (tVar j) (tCons (tVar k) tNil))))) Δ (.rp (WR K l1 l2 z)) := fun H0 G σ H I E p => by
  obtain ⟨ad, I⟩ := I
  obtain ⟨_, h1, v1, h2, h3⟩ := I.sl i _ hi
  obtain ⟨_, g1, v2, g2, g3⟩ := I.sl j _ hj
  obtain ⟨v, k1, k2⟩ := I.sl k _ hk
  have ev : v = .int z := k2
  subst ev
  refine ⟨_, h1, _, g1, _, k1, ?_⟩
  have key : ∀ q, H q = none → E.rt (.ref q) (upd H q (.tup [.ref (ad i), .ref (ad j), .int z])) := fun q hq => by
    have n1 : ad i ≠ q := by rintro rfl; rw [hq] at h2; cases h2
    have n2 : ad j ≠ q := by rintro rfl; rw [hq] at g2; cases g2
    have ex : Ex H (upd H q (.tup [.ref (ad i), .ref (ad j), .int z])) := Evl.Ex.new hq
    refine p _ _ ⟨q, ad i, ad j, v1, v2, vis Δ ad H0 G H, rfl, I.gvis, vis_sub.trans ex, I.ext.trans ex, fun a h h' => vis_hid (.inr ⟨h, h'⟩), upd_same, ?_, I.fr0 i _ hi rfl, vis_hid (.inl ⟨i, _, hi, rfl, rfl⟩), h3, ?_, I.fr0 j _ hj rfl, vis_hid (.inl ⟨j, _, hj, rfl, rfl⟩), g3, fun e => hij (I.inj i j _ _ hi rfl hj rfl e)⟩
    · rw [upd_ne n1]; exact h2
    · rw [upd_ne n2]; exact g2
  exact ⟨(by decide : 3 ≤ sizeLine), key⟩
theorem Ok.junk {i : Nat} {v : V} (I : Ok K H0 G T Δ σ H) : Ok K H0 G T (Δ.set i .un) (σ.set i (some v)) H := by
  obtain ⟨ad, J⟩ := I.forget (i := i)
  refine ⟨ad, J.ext, J.sub, J.fr0, J.inj, by simpa using J.len, fun k s h => ?_, J.mono, J.tmp⟩
  have h1 := J.sl k s h
  rcases set_get h with ⟨rfl, rfl⟩ | ⟨z, q⟩
  · obtain ⟨u, hu⟩ := h1
    have hl := (List.getElem?_eq_some_iff.mp hu).1
    exact ⟨some v, by rw [List.getElem?_set, if_pos rfl, if_pos hl]⟩
  · rw [List.getElem?_set, if_neg fun w => z w.symm]; exact h1
theorem xs_unpackW {R : List D → List D → List D → Int → Prop} {n i a b c : Nat} {E' : XK} {t : TA} {l1 l2 : List D} {z : Int} (h : EvA K t Δ ds Δ1) (hn : ds.length = n) (hR : R ds l1 l2 z) (hi : i < Δ1.length)
    (k : ExD K u ((((Δ1.set i .un).set a (.ow none l1)).set b (.ow none l2)).set c (.fr (.int z))) o) :
    ExD K (tSeq (tAsg (tCall (spW K n R) [] E' t) (gName i)) (tSeq (tIfS (tTest (tOp (fun x y H Q => y = .non ∧ Q (.bl (decide (x = .non))) H) (tVar i) (tC .non))) tNever tNext) (tSeq (tAsg (tVar i) (gTup K 3 (gCons (gName a) (gCons (gName b) (gCons (gName c) gNil))))) u))) Δ o := fun H0 G σ H I E p => by
  refine h H0 G _ σ H I _ fun vs H1 I1 => ?_
  obtain ⟨ad, J⟩ := I1
  have hsl := J.len
  rw [List.append_nil]
  refine ⟨by rw [J.tmp.2.length]; exact hn, vis Δ1 ad H0 G H1, ds, l1, l2, z, vis_sub, J.tmp.2, hR, fun tp p1 p2 v1 v2 H' F w => ?_⟩
  have hlen : i < σ.length := by omega
  have hget : (σ.set i (some (V.ref tp)))[i]? = some (some (V.ref tp)) := by rw [List.getElem?_set, if_pos rfl, if_pos hlen]
  -- the heap without the two lists
  have ex2 : Ex F (lessAt (lessAt H' p1) p2) := fun q o' e => by
    have q1 : q ≠ p1 := by rintro rfl; rw [w.f1] at e; cases e
    have q2 : q ≠ p2 := by rintro rfl; rw [w.f2] at e; cases e
    rw [lessAt_ne q2, lessAt_ne q1]; exact w.fh _ _ e
  have ex3 : Ex H1 (lessAt (lessAt H' p1) p2) := fun q o' e => by
    have q1 : q ≠ p1 := by rintro rfl; rw [w.n1] at e; cases e
    have q2 : q ≠ p2 := by rintro rfl; rw [w.n2] at e; cases e
    rw [lessAt_ne q2, lessAt_ne q1]; exact w.hh _ _ e
  have J2 : Ok K H0 G (fun F => (True ∧ True) ∧ RpL K F l1 v1 ∧ RpL K F l2 v2) Δ1 σ (lessAt (lessAt H' p1) p2) := ⟨ad, by
    obtain ⟨l2', l3⟩ := And.intro ex2 ex3
    have e : Ex F (vis Δ1 ad H0 G (lessAt (lessAt H' p1) p2)) := fun a' o' q => by
      rw [vis_no]
      · exact l2' _ _ q
      · intro zz
        have := w.hid a' (J.hid_some zz) (vis_hid zz)
        rw [q] at this; cases this
    exact (J.grow l3).to (mono_and (mono_and mono_true mono_true) (mono_and mono_rpL mono_rpL)) ⟨⟨trivial, trivial⟩, w.r1.ex e, w.r2.ex e⟩⟩
  have J3 := J2.junk (i := i) (v := .ref tp)
  have J4 := J3.assignNew (j := a) (p := p1) (vs := v1) (ds := l1) (U := fun F => True ∧ RpL K F l2 v2) (by rw [lessAt_ne w.ne]; exact lessAt_at) (mono_and mono_true mono_rpL) (fun F h => ⟨h.2.1, trivial, h.2.2⟩)
  have J5 := J4.assignNew (j := b) (p := p2) (vs := v2) (ds := l2) (U := fun _ => True) (by rw [upd_ne w.ne.symm]; exact lessAt_at) mono_true (fun F h => ⟨h.2, trivial⟩)
  have J6 := J5.assign (j := c) (d := .int z) (v := .int z) (U := fun _ => True) mono_true (fun F _ => ⟨rfl, trivial⟩)
  have eH : upd (upd (lessAt (lessAt H' p1) p2) p1 (.lst v1)) p2 (.lst v2) = H' := by
    funext q
    by_cases q2 : q = p2
    · subst q2; rw [upd_same]; exact w.a2.symm
    · rw [upd_ne q2]
      by_cases q1 : q = p1
      · subst q1; rw [upd_same]; exact w.a1.symm
      · rw [upd_ne q1, lessAt_ne q2, lessAt_ne q1]
  rw [eH] at J6
  have fin := k H0 G _ _ J6 E p
  refine ⟨_, hget, rfl, _, rfl, ?_⟩
  show (if decide (V.ref tp = V.non) = true then _ else tNext _ _ _)
  rw [if_neg (by simp)]
  refine ⟨_, hget, tp, _, rfl, .inl (Rd.of w.tt), rfl, _, _, rfl, _, _, rfl, _, _, rfl, ?_⟩
  exact ⟨rfl, fin⟩
theorem enterW {n : Nat} {R : List D → List D → List D → Int → Prop} {vs : List V} {Q : VK} {E : XK} {N : List Str} (h : spW K n R vs H Q E) (hN : n ≤ N.length)
    (hb : ∀ ds l1 l2 z, R ds l1 l2 z → ds.length = n → ExD K t (ds.map Sl.fr ++ List.replicate (N.length - n) .un) (.rp (WR K l1 l2 z))) :
    t { nx := fun _ H' => Q .non H', rt := Q } (L2.start N vs) H := by
  obtain ⟨hl, G, ds, l1, l2, z, hG, hv, hR, k⟩ := h
  have hdl : ds.length = n := by rw [← hv.length, hl]
  have I : Ok K H G (fun _ => True) (ds.map Sl.fr ++ List.replicate (N.length - n) .un) (L2.start N vs) H := by
    refine ⟨fun _ => 0, Evl.Ex.refl _, hG, fun i s h1 h2 => ?_, fun i j s u h1 h2 h3 h4 => ?_, by simp [L2.start, hl, hdl], fun i s h1 => ?_, mono_true, trivial⟩
    · rw [List.getElem?_append] at h1
      split at h1
      · rw [List.getElem?_map] at h1
        cases q : ds[i]? with
        | none => rw [q] at h1; cases h1
        | some d => rw [q] at h1; cases h1; cases h2
      · rw [List.getElem?_replicate] at h1
        split at h1
        · cases h1; cases h2
        · cases h1
    · rw [List.getElem?_append] at h1
      split at h1
      · rw [List.getElem?_map] at h1
        cases q : ds[i]? with
        | none => rw [q] at h1; cases h1
        | some d => rw [q] at h1; cases h1; cases h2
      · rw [List.getElem?_replicate] at h1
        split at h1
        · cases h1; cases h2
        · cases h1
    · have gv : Ex G (vis (ds.map Sl.fr ++ List.replicate (N.length - n) .un) (fun _ => 0) H G H) := fun a o q => by
        rw [vis_no]
        · exact hG _ _ q
        · rintro (⟨j, s, h1, h2, _⟩ | ⟨_, h2⟩)
          · rw [List.getElem?_append] at h1
            split at h1
            · rw [List.getElem?_map] at h1
              cases q : ds[j]? with
              | none => rw [q] at h1; cases h1
              | some d => rw [q] at h1; cases h1; cases h2
            · rw [List.getElem?_replicate] at h1
              split at h1
              · cases h1; cases h2
              · cases h1
          · rw [q] at h2; cases h2
      unfold L2.start
      rw [List.getElem?_append] at h1 ⊢
      rw [List.length_map] at h1 ⊢
      rw [hl]
      rw [hdl] at h1
      split at h1
      · rename_i hi
        rw [if_pos hi, List.getElem?_map]
        rw [List.getElem?_map] at h1
        cases q : ds[i]? with
        | none => rw [q] at h1; cases h1
        | some d =>
          rw [q] at h1; cases h1
          obtain ⟨v, k1, k2⟩ := hv.get q
          exact ⟨v, by rw [k1]; rfl, k2.ex gv⟩
      · rename_i hi
        rw [if_neg hi]
        rw [List.getElem?_replicate] at h1 ⊢
        split at h1
        · rename_i hj
          cases h1
          exact ⟨none, by rw [if_pos hj]⟩
        · cases h1
  exact hb ds l1 l2 z hR hdl H G _ H I _ fun v H' ⟨t, p1, p2, v1, v2, F, e, w⟩ => e ▸ k t p1 p2 v1 v2 H' F w
end
end DL

set_option linter.all false
set_option maxRecDepth 100000
namespace DL
open PySem PySem.Spec PyProof.Rows L2
/-! ### a function that hands out a list of its own -/
structure LP (K : Frag) (G H : Hp) (l : List D) (p : Addr) (v : List V) (H' F : Hp) : Prop where
  gf : Ex G F
  fh : Ex F H'
  hh : Ex H H'
  hid : ∀ a, H a ≠ none → G a = none → F a = none
  a1 : H' p = some (.lst v)
  n1 : H p = none
  f1 : F p = none
  r1 : RpL K F l v
def spL (K : Frag) (n : Nat) (R : List D → List D → Prop) : Sp := fun vs H Q _ => vs.length = n ∧ ∃ (G : Hp) (ds l : List D), Ex G H ∧ RpL K G ds vs ∧ R ds l ∧ ∀ p v H' F, LP K G H l p v H' F → Q (.ref p) H'
def LR (K : Frag) (l : List D) : Hp → Hp → V → Hp → Prop := fun H0 G v H' => ∃ p w F, v = .ref p ∧ LP K G H0 l p w H' F
section
variable {K : Frag} {H0 G H : Hp} {T : Hp → Prop} {σ : L2.St} {Δ Δ1 Δ2 Δ3 : DE} {ta tb te tc : TE} {tt tu : TT} {d x y : D} {ds es : List D} {o : Out} {t u : TS} {R : Hp → Hp → V → Hp → Prop}
theorem x_retL {i : Nat} {t1 : Option Addr} {l : List D} (hi : Δ[i]? = some (.ow t1 l)) : ExD K (tRet (tVar i)) Δ (.rp (LR K l)) := fun H0 G σ H I E p => by
  obtain ⟨ad, I⟩ := I
  obtain ⟨_, h1, v1, h2, h3⟩ := I.sl i _ hi
  exact ⟨_, h1, p _ _ ⟨ad i, v1, vis Δ ad H0 G H, rfl, I.gvis, vis_sub, I.ext, fun a h h' => vis_hid (.inr ⟨h, h'⟩), h2, I.fr0 i _ hi rfl, vis_hid (.inl ⟨i, _, hi, rfl, rfl⟩), h3⟩⟩
/-- the heap behind such a call, without the new list -/
theorem OkA.lessL {ad : Nat → Addr} {l : List D} {p : Addr} {v : List V} {H' F : Hp} {U : Hp → Prop} (I : OkA K H0 G ad T Δ σ H) (w : LP K (vis Δ ad H0 G H) H l p v H' F) (m : Mono U) (h : T F → RpL K F l v → U F) : OkA K H0 G ad U Δ σ (lessAt H' p) := by
  have ex2 : Ex F (lessAt H' p) := fun q o' e => by
    have q1 : q ≠ p := by rintro rfl; rw [w.f1] at e; cases e
    rw [lessAt_ne q1]; exact w.fh _ _ e
  have ex3 : Ex H (lessAt H' p) := fun q o' e => by
    have q1 : q ≠ p := by rintro rfl; rw [w.n1] at e; cases e
    rw [lessAt_ne q1]; exact w.hh _ _ e
  exact I.left ⟨w.gf, ex2, ex3, w.hid⟩ m fun t => h t w.r1
theorem lessAt_back {p : Addr} {v : List V} {H' : Hp} (h : H' p = some (.lst v)) : upd (lessAt H' p) p (.lst v) = H' := by
  funext q
  by_cases e : q = p
  · subst e; rw [upd_same]; exact h.symm
  · rw [upd_ne e, lessAt_ne e]
theorem el_callL {R : List D → List D → Prop} {n : Nat} {E : XK} {t : TA} {l : List D} (h : EvA K t Δ ds Δ1) (hn : ds.length = n) (hR : R ds l) : EvL K (tCall (spL K n R) [] E t) Δ l Δ1 := fun H0 G T σ H I Q q => h H0 G T σ H I _ fun vs H1 I1 => by
  obtain ⟨ad, J⟩ := I1
  rw [List.append_nil]
  refine ⟨by rw [J.tmp.2.length]; exact hn, vis Δ1 ad H0 G H1, ds, l, vis_sub, J.tmp.2, hR, fun p v H' F w => ?_⟩
  have := q p v (lessAt H' p) ⟨ad, J.lessL w (mono_and I.mono mono_rpL) fun t r => ⟨t.1, r⟩⟩ lessAt_at
  rwa [lessAt_back w.a1] at this
theorem enterL {n : Nat} {R : List D → List D → Prop} {vs : List V} {Q : VK} {E : XK} {N : List Str} (h : spL K n R vs H Q E) (hN : n ≤ N.length)
    (hb : ∀ ds l, R ds l → ds.length = n → ExD K t (ds.map Sl.fr ++ List.replicate (N.length - n) .un) (.rp (LR K l))) :
    t { nx := fun _ H' => Q .non H', rt := Q } (L2.start N vs) H := by
  obtain ⟨hl, G, ds, l, hG, hv, hR, k⟩ := h
  have hdl : ds.length = n := by rw [← hv.length, hl]
  have I : Ok K H G (fun _ => True) (ds.map Sl.fr ++ List.replicate (N.length - n) .un) (L2.start N vs) H := by
    refine ⟨fun _ => 0, Evl.Ex.refl _, hG, fun i s h1 h2 => ?_, fun i j s u h1 h2 h3 h4 => ?_, by simp [L2.start, hl, hdl], fun i s h1 => ?_, mono_true, trivial⟩
    · rw [List.getElem?_append] at h1
      split at h1
      · rw [List.getElem?_map] at h1
        cases q : ds[i]? with
        | none => rw [q] at h1; cases h1
        | some d => rw [q] at h1; cases h1; cases h2
      · rw [List.getElem?_replicate] at h1
        split at h1
        · cases h1; cases h2
        · cases h1
    · rw [List.getElem?_append] at h1
      split at h1
      · rw [List.getElem?_map] at h1
        cases q : ds[i]? with
        | none => rw [q] at h1; cases h1
        | some d => rw [q] at h1; cases h1; cases h2
      · rw [List.getElem?_replicate] at h1
        split at h1
        · cases h1; cases h2
        · cases h1
    · have gv : Ex G (vis (ds.map Sl.fr ++ List.replicate (N.length - n) .un) (fun _ => 0) H G H) := fun a o q => by
        rw [vis_no]
        · exact hG _ _ q
        · rintro (⟨j, s, h1, h2, _⟩ | ⟨_, h2⟩)
          · rw [List.getElem?_append] at h1
            split at h1
            · rw [List.getElem?_map] at h1
              cases q : ds[j]? with
              | none => rw [q] at h1; cases h1
              | some d => rw [q] at h1; cases h1; cases h2
            · rw [List.getElem?_replicate] at h1
              split at h1
              · cases h1; cases h2
              · cases h1
          · rw [q] at h2; cases h2
      unfold L2.start
      rw [List.getElem?_append] at h1 ⊢
      rw [List.length_map] at h1 ⊢
      rw [hl]
      rw [hdl] at h1
      split at h1
      · rename_i hi
        rw [if_pos hi, List.getElem?_map]
        rw [List.getElem?_map] at h1
        cases q : ds[i]? with
        | none => rw [q] at h1; cases h1
        | some d =>
          rw [q] at h1; cases h1
          obtain ⟨v, k1, k2⟩ := hv.get q
          exact ⟨v, by rw [k1]; rfl, k2.ex gv⟩
      · rename_i hi
        rw [if_neg hi]
        rw [List.getElem?_replicate] at h1 ⊢
        split at h1
        · rename_i hj
          cases h1
          exact ⟨none, by rw [if_pos hj]⟩
        · cases h1
  exact hb ds l hR hdl H G _ H I _ fun v H' ⟨p, w, F, e, hw⟩ => e ▸ k p w H' F hw
theorem Ok.ext {H0 : Hp} (I : Ok K H0 G T Δ σ H) : Ex H0 H := by obtain ⟨ad, I⟩ := I; exact I.ext
/-- from here on, where the frame owns nothing -/
theorem Ok.base (I : Ok K H0 G T Δ σ H) (hown : ∀ (j : Nat) (s : Sl), Δ[j]? = some s → s.own = false) : ∃ F, Ok K H F T Δ σ H := by
  obtain ⟨ad, I⟩ := I
  have e : Ex (vis Δ ad H0 G H) (vis Δ ad H (vis Δ ad H0 G H) H) := fun a o q => by
    rw [vis_no]
    · exact (vis_some q).2
    · rintro (⟨i, s, h1, h2, _⟩ | ⟨_, h2⟩)
      · rw [hown i s h1] at h2; cases h2
      · rw [q] at h2; cases h2
  refine ⟨vis Δ ad H0 G H, ad, Evl.Ex.refl _, vis_sub, fun i s h1 h2 => ?_, fun i j s u h1 h2 => ?_, I.len, fun i s h => (I.sl i s h).ex e (Evl.Ex.refl _), I.mono, I.mono _ _ e I.tmp⟩
  · rw [hown i s h1] at h2; cases h2
  · rw [hown i s h1] at h2; cases h2
/-- a list of two new lists: they are seen by two tests and then changed -/
theorem xs_twoLists {R1 R2 : List D → List D → Prop} {n1 n2 i : Nat} {E1 E2 : XK} {t1 t2 : TA} {ds1 ds2 A B : List D} {c1 c2 : TT} {u1 u2 : TS} {e1 e2 : Int}
    (hown : ∀ (j : Nat) (s : Sl), Δ[j]? = some s → s.own = false) (hi : i < Δ.length)
    (h1 : EvA K t1 Δ ds1 Δ) (hn1 : ds1.length = n1) (hR1 : R1 ds1 A) (h2 : EvA K t2 Δ ds2 Δ) (hn2 : ds2.length = n2) (hR2 : R2 ds2 B) (hA : A ≠ []) (hB : B.length < 100000)
    (hc1 : EvT K c1 (Δ.set i (.fr (.lst [.lst A, .lst B]))) false (Δ.set i (.fr (.lst [.lst A, .lst B])))) (hc2 : EvT K c2 (Δ.set i (.fr (.lst [.lst A, .lst B]))) false (Δ.set i (.fr (.lst [.lst A, .lst B]))))
    (k : ExD K u (Δ.set i .un) o) :
    ExD K (tSeq (tAsg (tLst (tCons (tCall (spL K n1 R1) [] E1 t1) (tCons (tCall (spL K n2 R2) [] E2 t2) tNil))) (gName i)) (tSeq (tIfS c1 u1 tNext) (tSeq (tIfS c2 u2 tNext)
      (tSeq (tDrop (tBM0 K "list" rPop (tOp (rIx K) (tVar i) (tC (.int 0))))) (tSeq (tDrop (tBM K "list" rAppend (tOp (rIx K) (tVar i) (tC (.int 1))) (tCons (tTup (tCons (tC (.int e1)) (tCons (tC (.int e2)) tNil))) tNil))) u))))) Δ o := fun H0 G σ H I E p0 => by
  have hown2 : ∀ (j : Nat) (s : Sl), (Δ.set i (.fr (.lst [.lst A, .lst B])))[j]? = some s → s.own = false := fun j s hj => by
    rcases set_get hj with ⟨_, rfl⟩ | ⟨_, q⟩
    · rfl
    · exact hown j s q
  obtain ⟨F0, B0⟩ := I.base hown
  refine h1 H F0 _ σ H B0 _ fun vs1 H1 I1 => ?_
  have x1 : Ex H H1 := I1.ext
  obtain ⟨ad, J⟩ := I1
  rw [List.append_nil]
  refine ⟨by rw [J.tmp.2.length]; exact hn1, vis Δ ad H F0 H1, ds1, A, vis_sub, J.tmp.2, hR1, fun p1 v1 H2 F2 w1 => ?_⟩
  have K1 : Ok K H F0 (fun F => RpL K F A v1) Δ σ (lessAt H2 p1) := ⟨ad, J.lessL w1 mono_rpL fun _ r => r⟩
  have K2 : Ok K H F0 (fun F => Rp K F (.lst A) (.ref p1)) Δ σ (upd (lessAt H2 p1) p1 (.lst v1)) := K1.new lessAt_at mono_rp fun F F' r e z => ⟨p1, v1, rfl, z, r.ex e⟩
  rw [lessAt_back w1.a1] at K2
  obtain ⟨F2', B2⟩ := K2.base hown
  refine h2 H2 F2' _ σ H2 B2 _ fun vs2 H3 I3 => ?_
  have x3 : Ex H2 H3 := I3.ext
  obtain ⟨ad3, J3⟩ := I3
  rw [List.append_nil]
  refine ⟨by rw [J3.tmp.2.length]; exact hn2, vis Δ ad3 H2 F2' H3, ds2, B, vis_sub, J3.tmp.2, hR2, fun p2 v2 H4 F4 w2 => ?_⟩
  have K3 : Ok K H2 F2' (fun F => Rp K F (.lst A) (.ref p1) ∧ RpL K F B v2) Δ σ (lessAt H4 p2) := ⟨ad3, J3.lessL w2 (mono_and mono_rp mono_rpL) fun t r => ⟨t.1, r⟩⟩
  have K4 : Ok K H2 F2' (fun F => Rp K F (.lst A) (.ref p1) ∧ Rp K F (.lst B) (.ref p2)) Δ σ (upd (lessAt H4 p2) p2 (.lst v2)) := K3.new lessAt_at (mono_and mono_rp mono_rp) fun F F' r e z => ⟨r.1.ex e, p2, v2, rfl, z, r.2.ex e⟩
  rw [lessAt_back w2.a1] at K4
  refine ⟨(by decide : 2 ≤ sizeLine), fun p hp => ?_⟩
  have K5 : Ok K H2 F2' (fun F => Rp K F (.lst [.lst A, .lst B]) (.ref p)) Δ σ (upd H4 p (.lst [.ref p1, .ref p2])) := K4.new hp mono_rp fun F F' r e z => ⟨p, _, rfl, z, _, _, rfl, r.1.ex e, _, _, rfl, r.2.ex e, rfl⟩
  have K6 := K5.assign (j := i) (d := .lst [.lst A, .lst B]) (v := .ref p) (U := fun _ => True) mono_true fun F r => ⟨r, trivial⟩
  obtain ⟨F5, B5⟩ := K6.base hown2
  have hsl : σ.length = Δ.length := I.len
  have hget : (σ.set i (some (V.ref p)))[i]? = some (some (V.ref p)) := by rw [List.getElem?_set, if_pos rfl, if_pos (by omega)]
  show tIfS c1 u1 tNext _ (σ.set i (some (V.ref p))) (upd H4 p (.lst [.ref p1, .ref p2]))
  refine hc1 _ F5 _ _ _ B5 _ fun H6 I6 => ?_
  rw [if_neg (by decide)]
  refine hc2 _ F5 _ _ _ I6 _ fun H7 I7 => ?_
  rw [if_neg (by decide)]
  have x7 : Ex (upd H4 p (.lst [.ref p1, .ref p2])) H7 := I7.ext
  have x5 : Ex H4 (upd H4 p (.lst [.ref p1, .ref p2])) := Evl.Ex.new hp
  have f1 : H7 p1 = some (.lst v1) := x7 _ _ (x5 _ _ (w2.hh _ _ (x3 _ _ w1.a1)))
  have f2 : H7 p2 = some (.lst v2) := x7 _ _ (x5 _ _ w2.a1)
  have f3 : H7 p = some (.lst [.ref p1, .ref p2]) := x7 _ _ upd_same
  have n12 : p2 ≠ p1 := by rintro rfl; have := x3 _ _ w1.a1; rw [w2.n1] at this; cases this
  have np1 : p ≠ p1 := by rintro rfl; have := w2.hh _ _ (x3 _ _ w1.a1); rw [hp] at this; cases this
  have np2 : p ≠ p2 := by rintro rfl; have := w2.a1; rw [hp] at this; cases this
  have g1 : H p1 = none := by
    cases q : H p1 with
    | none => rfl
    | some o => have := x1 _ _ q; rw [w1.n1] at this; cases this
  have g2 : H p2 = none := by
    cases q : H p2 with
    | none => rfl
    | some o => have := x3 _ _ (w1.hh _ _ (x1 _ _ q)); rw [w2.n1] at this; cases this
  have x07 : Ex H H7 := fun a o' z => x7 _ _ (x5 _ _ (w2.hh _ _ (x3 _ _ (w1.hh _ _ (x1 _ _ z)))))
  have l1 : 0 < v1.length := by rw [w1.r1.length]; exact List.length_pos_iff.mpr hA
  have l2 : v2.length = B.length := w2.r1.length
  have hlast : v1[v1.length - 1]? = some (v1[v1.length - 1]'(by omega)) := List.getElem?_eq_getElem (by omega)
  refine ⟨_, hget, .inl ⟨p, [.ref p1, .ref p2], 0, .ref p1, rfl, rfl, Evl.sq_of f3, rfl, .inl ⟨rfl, v1, Evl.sq_of f1⟩, p1, v1, _, rfl, rfl, f1, hlast, ?_⟩⟩
  have f3' : (upd H7 p1 (.lst v1.dropLast)) p = some (.lst [.ref p1, .ref p2]) := by rw [upd_ne np1]; exact f3
  have f2' : (upd H7 p1 (.lst v1.dropLast)) p2 = some (.lst v2) := by rw [upd_ne n12]; exact f2
  refine ⟨_, hget, .inl ⟨p, [.ref p1, .ref p2], 1, .ref p2, rfl, rfl, Evl.sq_of f3', rfl, .inl ⟨rfl, v2, Evl.sq_of f2'⟩, (by decide : 2 ≤ sizeLine), fun q hq => ?_⟩⟩
  have nq : p2 ≠ q := by rintro rfl; rw [f2'] at hq; cases hq
  refine ⟨p2, v2, _, rfl, rfl, by rw [upd_ne nq]; exact f2', by rw [l2]; exact Evl.sz_lt hB, ?_⟩
  have xF : Ex H (upd (upd (upd H7 p1 (.lst v1.dropLast)) q (.tup [.int e1, .int e2])) p2 (.lst (v2 ++ [.ref q]))) := fun a o' z => by
    have na1 : a ≠ p1 := by rintro rfl; rw [g1] at z; cases z
    have na2 : a ≠ p2 := by rintro rfl; rw [g2] at z; cases z
    have z8 : (upd H7 p1 (.lst v1.dropLast)) a = some o' := by rw [upd_ne na1]; exact x07 _ _ z
    have naq : a ≠ q := by rintro rfl; rw [hq] at z8; cases z8
    rw [upd_ne na2, upd_ne naq]; exact z8
  exact k H0 G _ _ ((I.grow xF).junk (i := i) (v := .ref p)) E p0
end
end DL

set_option linter.all false
namespace Gd
/-! ### tables -/
structure Tb where
  a : Int
  b : Int
  c : Int
  d : Int
  deriving DecidableEq
namespace Tb
def mul (x y : Tb) : Tb := ⟨x.a * y.a + x.b * y.c, x.a * y.b + x.b * y.d, x.c * y.a + x.d * y.c, x.c * y.b + x.d * y.d⟩
def neg (x : Tb) : Tb := ⟨-x.a, -x.b, -x.c, -x.d⟩
def det (x : Tb) : Int := x.a * x.d - x.b * x.c
def trace (x : Tb) : Int := x.a + x.d
def adj (x : Tb) : Tb := ⟨x.d, -x.b, -x.c, x.a⟩
def one : Tb := ⟨1, 0, 0, 1⟩
def turn (t : Int) : Tb := ⟨t, 1, 1, 0⟩
def inv (x : Tb) : Tb := if x.det = 1 then x.adj else x.adj.neg
/-- one turn more -/
def step (x : Tb) (t : Int) : Tb := ⟨x.a * t + x.b, x.a, x.c * t + x.d, x.c⟩
theorem ext' {x y : Tb} (h1 : x.a = y.a) (h2 : x.b = y.b) (h3 : x.c = y.c) (h4 : x.d = y.d) : x = y := by
  cases x; cases y; simp_all
theorem mul_assoc (x y z : Tb) : (x.mul y).mul z = x.mul (y.mul z) := by
  apply ext' <;> simp only [mul] <;> grind
theorem one_mul (x : Tb) : one.mul x = x := by
  apply ext' <;> simp only [mul, one] <;> grind
theorem mul_one (x : Tb) : x.mul one = x := by
  apply ext' <;> simp only [mul, one] <;> grind
theorem det_mul (x y : Tb) : (x.mul y).det = x.det * y.det := by
  simp only [mul, det]; grind
theorem step_eq (x : Tb) (t : Int) : x.step t = x.mul (turn t) := by
  apply ext' <;> simp only [mul, turn, step] <;> grind
theorem det_turn (t : Int) : (turn t).det = -1 := by simp [turn, det]
theorem det_inv {x : Tb} (h : x.det = 1 ∨ x.det = -1) : x.inv.det = x.det := by
  unfold inv
  rcases h with h | h
  · rw [if_pos h]; simp only [adj, det] at *; grind
  · rw [if_neg (by omega)]; simp only [adj, neg, det] at *; grind
theorem mul_inv {x : Tb} (h : x.det = 1 ∨ x.det = -1) : x.mul x.inv = one := by
  unfold inv
  rcases h with h | h
  · rw [if_pos h]; simp only [det] at h
    apply ext' <;> simp only [mul, adj, one] <;> grind
  · rw [if_neg (by omega)]; simp only [det] at h
    apply ext' <;> simp only [mul, adj, neg, one] <;> grind
theorem inv_mul {x : Tb} (h : x.det = 1 ∨ x.det = -1) : x.inv.mul x = one := by
  unfold inv
  rcases h with h | h
  · rw [if_pos h]; simp only [det] at h
    apply ext' <;> simp only [mul, adj, one] <;> grind
  · rw [if_neg (by omega)]; simp only [det] at h
    apply ext' <;> simp only [mul, adj, neg, one] <;> grind
end Tb
/-- the product of the tables of turns -/
def prod (ts : List Int) : Tb := ts.foldl Tb.step Tb.one
theorem foldl_step (ts : List Int) : ∀ x : Tb, ts.foldl Tb.step x = x.mul (prod ts) := by
  induction ts with
  | nil => intro x; simp [prod, Tb.mul_one]
  | cons t r ih =>
    intro x
    show r.foldl Tb.step (x.step t) = x.mul (r.foldl Tb.step (Tb.one.step t))
    rw [ih, ih (Tb.one.step t), Tb.step_eq, Tb.step_eq, Tb.one_mul, Tb.mul_assoc]
theorem prod_append (xs ys : List Int) : prod (xs ++ ys) = (prod xs).mul (prod ys) := by
  unfold prod; rw [List.foldl_append, foldl_step]; rfl
theorem prod_cons (t : Int) (ts : List Int) : prod (t :: ts) = (Tb.turn t).mul (prod ts) := by
  have h := prod_append [t] ts
  have e : prod [t] = Tb.turn t := by
    show Tb.one.step t = _
    rw [Tb.step_eq, Tb.one_mul]
  rw [e] at h; exact h
theorem prod_snoc (ts : List Int) (t : Int) : prod (ts ++ [t]) = (prod ts).step t := by
  unfold prod; rw [List.foldl_append]; rfl
theorem prod_nil : prod [] = Tb.one := rfl
/-- 1 or -1 by the number of turns -/
def sgn (n : Nat) : Int := 1 - 2 * ((n % 2 : Nat) : Int)
theorem sgn_zero : sgn 0 = 1 := rfl
theorem sgn_succ (n : Nat) : sgn (n + 1) = -sgn n := by unfold sgn; omega
theorem sgn_add (m n : Nat) : sgn (m + n) = sgn m * sgn n := by
  induction n with
  | zero => simp [sgn_zero]
  | succ n ih => rw [← Nat.add_assoc, sgn_succ, sgn_succ, ih]; grind
theorem sgn_or (n : Nat) : sgn n = 1 ∨ sgn n = -1 := by unfold sgn; omega
theorem sgn_sq (n : Nat) : sgn n * sgn n = 1 := by rcases sgn_or n with h | h <;> rw [h] <;> rfl
theorem det_prod (ts : List Int) : (prod ts).det = sgn ts.length := by
  induction ts with
  | nil => rfl
  | cons t r ih => rw [prod_cons, Tb.det_mul, Tb.det_turn, ih, List.length_cons, sgn_succ]; omega
theorem det_prod_or (ts : List Int) : (prod ts).det = 1 ∨ (prod ts).det = -1 := by rw [det_prod]; exact sgn_or _

/-! ### positivity -/
/-- all turns at least 1 -/
def Pos (ts : List Int) : Prop := ∀ t ∈ ts, 1 ≤ t
theorem Pos.tail {t : Int} {ts : List Int} (h : Pos (t :: ts)) : Pos ts := fun x hx => h x (List.mem_cons_of_mem _ hx)
theorem Pos.append {xs ys : List Int} (h : Pos xs) (k : Pos ys) : Pos (xs ++ ys) := fun x hx => (List.mem_append.mp hx).elim (h x) (k x)
theorem Pos.of_append {xs ys : List Int} (h : Pos (xs ++ ys)) : Pos xs ∧ Pos ys := ⟨fun x hx => h x (List.mem_append_left _ hx), fun x hx => h x (List.mem_append_right _ hx)⟩
theorem Pos.take {xs : List Int} (h : Pos xs) (n : Nat) : Pos (xs.take n) := fun x hx => h x (List.mem_of_mem_take hx)
theorem Pos.drop {xs : List Int} (h : Pos xs) (n : Nat) : Pos (xs.drop n) := fun x hx => h x (List.mem_of_mem_drop hx)
/-- the shape of the table of a row of turns from 1 on -/
structure Up (x : Tb) : Prop where
  a1 : 1 ≤ x.a
  b1 : 1 ≤ x.b
  c1 : 1 ≤ x.c
  d0 : 0 ≤ x.d
  ab : x.b ≤ x.a
  ac : x.c ≤ x.a
  bd : x.d ≤ x.b
  cd : x.d ≤ x.c
theorem up_prod {ts : List Int} (h : Pos ts) (hn : ts ≠ []) : Up (prod ts) := by
  induction ts with
  | nil => exact absurd rfl hn
  | cons t r ih =>
    have ht : 1 ≤ t := h t List.mem_cons_self
    by_cases hr : r = []
    · subst hr
      show Up (Tb.one.step t)
      constructor <;> simp [Tb.one, Tb.step] <;> omega
    · have u := ih h.tail hr
      rw [prod_cons]
      obtain ⟨a1, b1, c1, d0, ab, ac, bd, cd⟩ := u
      generalize prod r = x at *
      have e1 : x.a ≤ t * x.a := by
        have := Int.mul_le_mul_of_nonneg_right ht (show 0 ≤ x.a by omega); omega
      have e2 : x.b ≤ t * x.b := by
        have := Int.mul_le_mul_of_nonneg_right ht (show 0 ≤ x.b by omega); omega
      have e3 : t * x.b ≤ t * x.a := Int.mul_le_mul_of_nonneg_left ab (by omega)
      constructor <;> simp [Tb.turn, Tb.mul] <;> omega
theorem up_strict {x : Tb} (u : Up x) (h : x.det = 1 ∨ x.det = -1) : x.c + x.d < x.a + x.b ∧ x.b + x.d < x.a + x.c := by
  obtain ⟨a1, b1, c1, d0, ab, ac, bd, cd⟩ := u
  constructor
  · rcases Int.lt_or_le (x.c + x.d) (x.a + x.b) with h1 | h1
    · exact h1
    · have e1 : x.c = x.a := by omega
      have e2 : x.d = x.b := by omega
      simp only [Tb.det] at h
      rw [e1, e2] at h
      rw [Int.mul_comm x.b x.a] at h
      omega
  · rcases Int.lt_or_le (x.b + x.d) (x.a + x.c) with h1 | h1
    · exact h1
    · have e1 : x.b = x.a := by omega
      have e2 : x.d = x.c := by omega
      simp only [Tb.det] at h
      rw [e1, e2] at h
      omega
/-- a first turn of any size, then turns from 1 on -/
def Turns (ts : List Int) : Prop := Pos ts.tail
theorem lower_pos {ts : List Int} (h : Turns ts) (hn : ts ≠ []) : 1 ≤ (prod ts).c ∧ 0 ≤ (prod ts).d := by
  cases ts with
  | nil => exact absurd rfl hn
  | cons t r =>
    rw [prod_cons]
    by_cases hr : r = []
    · subst hr; simp [prod, Tb.one, Tb.mul, Tb.turn]
    · have u : Up (prod r) := up_prod h hr
      obtain ⟨a1, b1, c1, d0, ab, ac, bd, cd⟩ := u
      simp [Tb.mul, Tb.turn]
      omega

/-! ### forms -/
structure Qf where
  a : Int
  b : Int
  c : Int
  deriving DecidableEq
namespace Qf
theorem ext' {x y : Qf} (h1 : x.a = y.a) (h2 : x.b = y.b) (h3 : x.c = y.c) : x = y := by
  cases x; cases y; simp_all
def neg (q : Qf) : Qf := ⟨-q.a, -q.b, -q.c⟩
def scale (k : Int) (q : Qf) : Qf := ⟨k * q.a, k * q.b, k * q.c⟩
def disc (q : Qf) : Int := q.b * q.b - 4 * q.a * q.c
/-- moved_numbers -/
def on (q : Qf) (m : Tb) : Qf :=
  ⟨q.a * m.a * m.a + q.b * m.a * m.c + q.c * m.c * m.c,
   2 * q.a * m.a * m.b + q.b * (m.a * m.d + m.b * m.c) + 2 * q.c * m.c * m.d,
   q.a * m.b * m.b + q.b * m.b * m.d + q.c * m.d * m.d⟩
/-- the state behind a turn -/
def nxt (q : Qf) (t : Int) : Qf := ⟨-(q.a * t * t + q.b * t + q.c), -(2 * q.a * t + q.b), -q.a⟩
def run (q : Qf) (ts : List Int) : Qf := ts.foldl nxt q
theorem on_mul (q : Qf) (m n : Tb) : (q.on m).on n = q.on (m.mul n) := by
  apply ext' <;> simp only [on, Tb.mul] <;> grind
theorem on_one (q : Qf) : q.on Tb.one = q := by
  apply ext' <;> simp only [on, Tb.one] <;> grind
theorem on_neg (q : Qf) (m : Tb) : q.on m.neg = q.on m := by
  apply ext' <;> simp only [on, Tb.neg] <;> grind
theorem scale_on (k : Int) (q : Qf) (m : Tb) : (q.scale k).on m = (q.on m).scale k := by
  apply ext' <;> simp only [on, scale] <;> grind
theorem scale_scale (k l : Int) (q : Qf) : (q.scale l).scale k = q.scale (k * l) := by
  apply ext' <;> simp only [scale] <;> grind
theorem scale_one (q : Qf) : q.scale 1 = q := by
  apply ext' <;> simp only [scale] <;> omega
theorem nxt_eq (q : Qf) (t : Int) : q.nxt t = (q.on (Tb.turn t)).scale (-1) := by
  apply ext' <;> simp only [on, nxt, scale, Tb.turn] <;> grind
theorem run_eq (ts : List Int) : ∀ q : Qf, q.run ts = (q.on (prod ts)).scale (sgn ts.length) := by
  induction ts with
  | nil => intro q; show q = _; rw [prod_nil, on_one, List.length_nil, sgn_zero, scale_one]
  | cons t r ih =>
    intro q
    show (q.nxt t).run r = _
    rw [ih, nxt_eq, scale_on, scale_scale, on_mul, ← prod_cons, List.length_cons, sgn_succ]
    congr 1; omega
theorem run_append (q : Qf) (xs ys : List Int) : q.run (xs ++ ys) = (q.run xs).run ys := by
  unfold run; rw [List.foldl_append]
theorem nxt_scale (k : Int) (q : Qf) (t : Int) : (q.scale k).nxt t = (q.nxt t).scale k := by
  apply ext' <;> simp only [nxt, scale] <;> grind
theorem run_scale (k : Int) (ts : List Int) : ∀ q : Qf, (q.scale k).run ts = (q.run ts).scale k := by
  induction ts with
  | nil => intro q; rfl
  | cons t r ih => intro q; show ((q.scale k).nxt t).run r = ((q.nxt t).run r).scale k; rw [nxt_scale, ih]
theorem disc_nxt (q : Qf) (t : Int) : (q.nxt t).disc = q.disc := by simp only [nxt, disc]; grind
theorem disc_run (ts : List Int) : ∀ q : Qf, (q.run ts).disc = q.disc := by
  induction ts with
  | nil => intro q; rfl
  | cons t r ih => intro q; show ((q.nxt t).run r).disc = _; rw [ih, disc_nxt]
theorem disc_scale (k : Int) (q : Qf) : (q.scale k).disc = k * k * q.disc := by simp only [scale, disc]; grind
theorem disc_on (q : Qf) (m : Tb) : (q.on m).disc = m.det * m.det * q.disc := by simp only [on, disc, Tb.det]; grind
/-- the form whose root the table keeps -/
def keep (m : Tb) : Qf := ⟨m.c, m.d - m.a, -m.b⟩
theorem keep_on (m : Tb) : (keep m).on m = (keep m).scale m.det := by
  apply ext' <;> simp only [on, keep, scale, Tb.det] <;> grind
theorem disc_keep (m : Tb) : (keep m).disc = m.trace * m.trace - 4 * m.det := by
  simp only [keep, disc, Tb.trace, Tb.det]; grind
theorem run_keep (ts : List Int) : (keep (prod ts)).run ts = keep (prod ts) := by
  rw [run_eq, keep_on, scale_scale, det_prod, sgn_sq, scale_one]
/-- one turn of the ring on -/
theorem nxt_keep (t : Int) (ts : List Int) : (keep (prod (t :: ts))).nxt t = keep (prod (ts ++ [t])) := by
  rw [prod_cons, prod_append]
  have e : prod [t] = Tb.turn t := by
    show Tb.one.step t = _
    rw [Tb.step_eq, Tb.one_mul]
  rw [e]
  generalize prod ts = x
  apply ext' <;> simp only [nxt, keep, Tb.mul, Tb.turn] <;> grind
/-- Root.moved: by the adjugate, the sign by the determinant -/
def moved (q : Qf) (m : Tb) : Qf := if m.det < 0 then (q.on m.adj).neg else q.on m.adj
theorem moved_run (q : Qf) (ts : List Int) : (q.moved (prod ts)).run ts = q := by
  have h0 := det_prod ts
  have h : (q.moved (prod ts)) = (q.on (prod ts).inv).scale (sgn ts.length) := by
    unfold moved Tb.inv
    rcases sgn_or ts.length with h | h
    · rw [h0, h, if_neg (by omega), if_pos rfl, scale_one]
    · rw [h0, h, if_pos (by omega), if_neg (by omega), on_neg]
      apply ext' <;> simp only [neg, scale] <;> omega
  rw [h, run_scale, run_eq, on_mul, Tb.inv_mul (det_prod_or ts), on_one, scale_scale, sgn_sq, scale_one]
end Qf
end Gd

set_option linter.all false
namespace Gd
/-! ### floors -/
/-- s is the floor of the root of D, which is no square -/
structure Side (D s : Int) : Prop where
  s0 : 0 ≤ s
  lo : s * s < D
  hi : D < (s + 1) * (s + 1)
theorem Side.le {D s x : Int} (h : Side D s) (hx : x * x < D) : -s ≤ x ∧ x ≤ s := by
  obtain ⟨s0, lo, hi⟩ := h
  constructor
  · rcases Int.lt_or_le x (-s) with h1 | h1
    · have : (s + 1) * (s + 1) ≤ (-x) * (-x) := Int.mul_le_mul (by omega) (by omega) (by omega) (by omega)
      have e : (-x) * (-x) = x * x := by grind
      omega
    · exact h1
  · rcases Int.lt_or_le s x with h1 | h1
    · have : (s + 1) * (s + 1) ≤ x * x := Int.mul_le_mul (by omega) (by omega) (by omega) (by omega)
      omega
    · exact h1
theorem Side.gt {D s x : Int} (h : Side D s) (hx : D < x * x) : x ≤ -s - 1 ∨ s + 1 ≤ x := by
  obtain ⟨s0, lo, hi⟩ := h
  rcases Int.lt_or_le s x with h1 | h1
  · right; omega
  · left
    rcases Int.lt_or_le x (-s) with h2 | h2
    · omega
    · have hh : x * x ≤ s * s := by
        rcases Int.le_total 0 x with h3 | h3
        · exact Int.mul_le_mul h1 h1 (by omega) (by omega)
        · have : (-x) * (-x) ≤ s * s := Int.mul_le_mul (by omega) (by omega) (by omega) (by omega)
          have e : (-x) * (-x) = x * x := by grind
          omega
      omega
/-- t is below the root of q -/
def Below (s : Int) (q : Qf) (t : Int) : Prop := (0 < q.a ∧ 2 * q.a * t + q.b ≤ s) ∨ (q.a < 0 ∧ s + 1 ≤ 2 * q.a * t + q.b)
/-- floor_by_side -/
def floorBy (a b s : Int) : Int := if 0 < a then (s - b) / (2 * a) else (b - s - 1) / (-2 * a)
theorem floorBy_eq {s : Int} {q : Qf} {t : Int} (h1 : Below s q t) (h2 : ¬ Below s q (t + 1)) (h0 : q.a ≠ 0) : floorBy q.a q.b s = t := by
  unfold floorBy
  unfold Below at h1 h2
  have e : 2 * q.a * (t + 1) = 2 * q.a * t + 2 * q.a := by grind
  rw [e] at h2
  rcases h1 with ⟨ha, h1⟩ | ⟨ha, h1⟩
  · rw [if_pos ha]
    have h3 : s + 1 ≤ 2 * q.a * t + 2 * q.a + q.b := by
      rcases Int.lt_or_le s (2 * q.a * t + 2 * q.a + q.b) with h | h
      · omega
      · exact absurd (Or.inl ⟨ha, h⟩) h2
    have e1 : s - q.b = (s - q.b - 2 * q.a * t) + (2 * q.a) * t := by omega
    rw [e1, Int.add_mul_ediv_left _ _ (by omega), Int.ediv_eq_zero_of_lt (by omega) (by omega)]
    omega
  · rw [if_neg (by omega)]
    have h3 : 2 * q.a * t + 2 * q.a + q.b ≤ s := by
      rcases Int.lt_or_le s (2 * q.a * t + 2 * q.a + q.b) with h | h
      · exact absurd (Or.inr ⟨ha, by omega⟩) h2
      · exact h
    have e1 : q.b - s - 1 = (q.b - s - 1 + 2 * q.a * t) + (-2 * q.a) * t := by grind
    rw [e1, Int.add_mul_ediv_left _ _ (by omega), Int.ediv_eq_zero_of_lt (by omega) (by omega)]
    omega
theorem mul_lt {a b c d : Int} (h1 : a ≤ b) (h2 : c ≤ d) (ha : 0 ≤ a) (hd : 0 ≤ c) : a * c ≤ b * d := Int.mul_le_mul h1 h2 hd (by omega)
/-- the rest above 1: the turn is the floor -/
theorem floor_of_rest {D s : Int} {q : Qf} {t : Int} (S : Side D s) (hD : q.disc = D) (h0 : q.a ≠ 0) (hr : Below s (q.nxt t) 1) : Below s q t ∧ ¬ Below s q (t + 1) := by
  obtain ⟨a, b, c⟩ := q
  simp only [Below, Qf.nxt, Qf.disc] at *
  -- u the value at t of the derivative, v the form's value
  have hu : (2 * a * t + b) * (2 * a * t + b) - D = 4 * a * (a * t * t + b * t + c) := by grind
  generalize hv : a * t * t + b * t + c = v at *
  generalize hw : 2 * a * t + b = u at *
  have eu : 2 * a * (t + 1) + b = u + 2 * a := by grind
  rw [eu]
  have s0 := S.s0
  have slo := S.lo
  rcases hr with ⟨h1, h2⟩ | ⟨h1, h2⟩
  · -- v < 0
    have hvn : v < 0 := by omega
    rcases Int.lt_or_gt_of_ne h0 with ha | ha
    · -- a < 0: u * u > D
      have hp : 0 < a * v := Int.mul_pos_of_neg_of_neg ha hvn
      have hgt : D < u * u := by grind
      have h3 := S.gt hgt
      have hus : s + 1 ≤ u := by
        rcases h3 with h3 | h3
        · exfalso; omega
        · exact h3
      refine ⟨.inr ⟨ha, hus⟩, ?_⟩
      rintro (⟨h4, _⟩ | ⟨_, h4⟩)
      · omega
      · -- u + 2a ≥ s+1 : (u - s)(u + s) ≥ ... > u^2 - D
        have m := mul_lt (show -2 * a ≤ u - s - 1 by omega) (show -2 * v ≤ u + s by omega) (by omega) (by omega)
        have e1 : (-2 * a) * (-2 * v) = 4 * a * v := by grind
        have e2 : (u - s - 1) * (u + s) = u * u - s * s - u - s := by grind
        have hi := S.hi
        have e3 : (s + 1) * (s + 1) = s * s + 2 * s + 1 := by grind
        omega
    · have hp : a * v < 0 := Int.mul_neg_of_pos_of_neg ha hvn
      have hlt : u * u < D := by grind
      have h3 := S.le hlt
      refine ⟨.inl ⟨ha, h3.2⟩, ?_⟩
      rintro (⟨_, h4⟩ | ⟨h4, _⟩)
      · have m := mul_lt (show 2 * a ≤ s - u by omega) (show -2 * v ≤ s + u by omega) (by omega) (by omega)
        have e1 : (2 * a) * (-2 * v) = -(4 * a * v) := by grind
        have e2 : (s - u) * (s + u) = s * s - u * u := by grind
        omega
      · omega
  · have hvp : 0 < v := by omega
    rcases Int.lt_or_gt_of_ne h0 with ha | ha
    · have hp : a * v < 0 := Int.mul_neg_of_neg_of_pos ha hvp
      have hlt : u * u < D := by grind
      have h3 := S.le hlt
      exfalso; omega
    · have hp : 0 < a * v := Int.mul_pos ha hvp
      have hgt : D < u * u := by grind
      have h3 := S.gt hgt
      have hus : u ≤ -s - 1 := by
        rcases h3 with h3 | h3
        · exact h3
        · exfalso; omega
      refine ⟨.inl ⟨ha, by omega⟩, ?_⟩
      rintro (⟨_, h4⟩ | ⟨h4, _⟩)
      · have m2 := mul_lt (show 2 * v ≤ -u - s - 1 by omega) (show 2 * a ≤ s - u by omega) (by omega) (by omega)
        have e1 : (2 * v) * (2 * a) = 4 * a * v := by grind
        have e2 : (-u - s - 1) * (s - u) = u * u - s * s - s + u := by grind
        have hi := S.hi
        have e3 : (s + 1) * (s + 1) = s * s + 2 * s + 1 := by grind
        omega
      · omega
/-- a root above a turn from 1 on is above 1 -/
theorem below_one {s t : Int} {q : Qf} (h : Below s q t) (ht : 1 ≤ t) : Below s q 1 := by
  rcases h with ⟨h1, h2⟩ | ⟨h1, h2⟩
  · have := Int.mul_le_mul_of_nonneg_left ht (show 0 ≤ 2 * q.a by omega)
    exact .inl ⟨h1, by omega⟩
  · have := Int.mul_le_mul_of_nonpos_left (show 2 * q.a ≤ 0 by omega) ht
    exact .inr ⟨h1, by omega⟩
theorem a_ne {D s : Int} {q : Qf} (S : Side D s) (hD : q.disc = D) : q.a ≠ 0 := by
  intro h
  have hl : D = q.b * q.b := by rw [← hD]; simp [Qf.disc, h]
  rcases Int.lt_trichotomy (q.b * q.b) (s * s) with h1 | h1 | h1
  · have := S.lo; omega
  · have := S.lo; omega
  · have h2 : s * s < q.b * q.b ∧ q.b * q.b < (s + 1) * (s + 1) := ⟨h1, by have := S.hi; omega⟩
    have h3 := S.s0
    rcases Int.le_total 0 q.b with hb | hb
    · rcases Int.lt_or_le s q.b with h4 | h4
      · have := mul_lt (show s + 1 ≤ q.b by omega) (show s + 1 ≤ q.b by omega) (by omega) (by omega); omega
      · have := mul_lt h4 h4 hb hb; omega
    · have e : (-q.b) * (-q.b) = q.b * q.b := by grind
      rcases Int.lt_or_le s (-q.b) with h4 | h4
      · have := mul_lt (show s + 1 ≤ -q.b by omega) (show s + 1 ≤ -q.b by omega) (by omega) (by omega); omega
      · have := mul_lt h4 h4 (by omega) (by omega); omega
/-- above 1, and the other one above -1 and below 0 -/
structure Red (q : Qf) : Prop where
  a0 : 0 < q.a
  c0 : q.c < 0
  p1 : q.a + q.b + q.c < 0
  m1 : 0 < q.a - q.b + q.c
theorem Red.below {D s : Int} {q : Qf} (h : Red q) (S : Side D s) (hD : q.disc = D) : Below s q 1 := by
  have hh := h.a0
  have h2 : 4 * q.a * (q.a + q.b + q.c) < 0 := Int.mul_neg_of_pos_of_neg (by omega) h.p1
  have e : (2 * q.a + q.b) * (2 * q.a + q.b) - q.disc = 4 * q.a * (q.a + q.b + q.c) := by simp only [Qf.disc]; grind
  exact .inl ⟨hh, by have := S.le (show (2 * q.a + q.b) * (2 * q.a + q.b) < D by omega); omega⟩
theorem red_keep {x : Tb} (u : Up x) (h : x.det = 1 ∨ x.det = -1) : Red (Qf.keep x) := by
  have k := up_strict u h
  obtain ⟨a1, b1, c1, d0, ab, ac, bd, cd⟩ := u
  constructor <;> simp only [Qf.keep] <;> omega
theorem red_scale {k : Int} {q : Qf} (hk : 0 < k) (h : Red (q.scale k)) : Red q := by
  obtain ⟨a, b, c⟩ := q
  obtain ⟨h1, h2, h3, h4⟩ := h
  simp only [Qf.scale] at *
  have e3 : k * a + k * b + k * c = k * (a + b + c) := by grind
  have e4 : k * a - k * b + k * c = k * (a - b + c) := by grind
  rw [e3] at h3; rw [e4] at h4
  have neg : ∀ x : Int, k * x < 0 → x < 0 := fun x hx => by
    rcases Int.lt_or_le x 0 with h | h
    · exact h
    · have := Int.mul_nonneg (show 0 ≤ k by omega) h; omega
  have pos : ∀ x : Int, 0 < k * x → 0 < x := fun x hx => by
    rcases Int.lt_or_le 0 x with h | h
    · exact h
    · have := Int.mul_nonpos_of_nonneg_of_nonpos (show 0 ≤ k by omega) h; omega
  exact ⟨pos _ h1, neg _ h2, neg _ h3, pos _ h4⟩
/-! ### the discriminant is no square -/
theorem keep_disc {x : Tb} (u : Up x) (h : x.det = 1 ∨ x.det = -1) : ∃ s, Side (Qf.keep x).disc s ∧ 1 ≤ s := by
  have k := up_strict u h
  obtain ⟨a1, b1, c1, d0, ab, ac, bd, cd⟩ := u
  rw [Qf.disc_keep]
  simp only [Tb.trace]
  rcases h with h | h
  · -- trace at least 3
    rw [h]
    have h3 : 3 ≤ x.a + x.d := by
      have hp : 1 ≤ x.b * x.c := by have := Int.mul_le_mul b1 c1 (by omega) (by omega); omega
      simp only [Tb.det] at h
      rcases Int.lt_or_le x.d 1 with hd | hd
      · have : x.d = 0 := by omega
        rw [this] at h; simp at h; omega
      · rcases Int.lt_or_le x.a 2 with ha | ha
        · have e1 : x.a = 1 := by omega
          have e2 : x.d = 1 := by omega
          rw [e1, e2] at h; omega
        · omega
    generalize x.a + x.d = T at *
    refine ⟨T - 1, ⟨by omega, ?_, ?_⟩, by omega⟩
    · have : (T - 1) * (T - 1) = T * T - 2 * T + 1 := by grind
      omega
    · have : (T - 1 + 1) * (T - 1 + 1) = T * T := by grind
      omega
  · rw [h]
    generalize hT : x.a + x.d = T at *
    rcases Int.lt_or_le T 2 with h2 | h2
    · have : T = 1 := by omega
      subst this
      exact ⟨2, ⟨by omega, by omega, by omega⟩, by omega⟩
    · refine ⟨T, ⟨by omega, by omega, ?_⟩, by omega⟩
      have : (T + 1) * (T + 1) = T * T + 2 * T + 1 := by grind
      omega
/-- between two squares there is none: a scaled discriminant is none, either -/
theorem side_unscale {D k S : Int} (hk : 0 < k) (h : Side (k * k * D) S) : ∃ s, Side D s := by
  -- s = S / k
  have hS := h.s0
  refine ⟨S / k, Int.ediv_nonneg hS (by omega), ?_, ?_⟩
  · have h1 : k * (S / k) ≤ S := Int.mul_ediv_self_le (by omega)
    have h0 : 0 ≤ S / k := Int.ediv_nonneg hS (by omega)
    have h00 : 0 ≤ k * (S / k) := Int.mul_nonneg (by omega) h0
    have h2 := mul_lt h1 h1 h00 h00
    have h3 := h.lo
    have e : k * (S / k) * (k * (S / k)) = k * k * ((S / k) * (S / k)) := by grind
    rw [e] at h2
    rcases Int.lt_or_le ((S / k) * (S / k)) D with h4 | h4
    · exact h4
    · have := Int.mul_le_mul_of_nonneg_left h4 (show 0 ≤ k * k from Int.mul_nonneg (by omega) (by omega))
      omega
  · have h1 : S + 1 ≤ k * (S / k + 1) := by
      have := Int.lt_mul_ediv_self_add (x := S) (k := k) hk
      have e : k * (S / k + 1) = k * (S / k) + k := by grind
      omega
    have h2 := mul_lt h1 h1 (by omega) (by omega)
    have h3 := h.hi
    have e : k * (S / k + 1) * (k * (S / k + 1)) = k * k * ((S / k + 1) * (S / k + 1)) := by grind
    rw [e] at h2
    rcases Int.lt_or_le D ((S / k + 1) * (S / k + 1)) with h4 | h4
    · exact h4
    · have := Int.mul_le_mul_of_nonneg_left h4 (show 0 ≤ k * k from Int.mul_nonneg (by omega) (by omega))
      omega
end Gd

set_option linter.all false
namespace Gd
/-! ### rows of turns, their one form (loops without steps) -/
/-- the turn of the ring at a count, backwards too -/
def rt (ring : List Int) (c : Int) : Int := ring.getD (c % ring.length).toNat 0
/-- the ring from a count on -/
def rot (ring : List Int) (c : Int) : List Int := (List.range ring.length).map fun i : Nat => rt ring (c + i)
/-- the ring is its first m turns again and again -/
def Per (ring : List Int) (m : Nat) : Prop := ∀ i : Nat, i < ring.length → ring.getD i 0 = ring.getD (i % m) 0
instance (ring : List Int) (m : Nat) : Decidable (Per ring m) := inferInstanceAs (Decidable (∀ i : Nat, i < ring.length → _))
def sizeOk (ring : List Int) (m : Nat) : Bool := decide (ring.length % m = 0) && decide (Per ring m)
def sizes (ring : List Int) : List Nat := (List.range (ring.length / 2)).map (· + 1)
def least (ring : List Int) : List Int := match (sizes ring).find? (sizeOk ring) with
  | some m => ring.take m
  | none => ring
/-- how many turns at the end of the head belong to the ring -/
def backN (head ring : List Int) : Nat → Nat → Nat
  | 0, b => b
  | n + 1, b => if head.getD (head.length - 1 - b) 0 = rt ring (-1 - (b : Int)) then backN head ring n (b + 1) else b
def back (head ring : List Int) : Nat := backN head ring (head.length - 1) 0
def front (head loop : List Int) : List Int := head.take (head.length - back head (least loop))
def ring (head loop : List Int) : List Int := rot (least loop) (-(back head (least loop) : Int))

theorem backN_le (head r : List Int) : ∀ n b : Nat, b ≤ backN head r n b ∧ backN head r n b ≤ b + n
  | 0, b => by simp [backN]
  | n + 1, b => by
    unfold backN
    split
    · have := backN_le head r n (b + 1); omega
    · omega
/-- the turns that go on -/
theorem backN_go (head r : List Int) : ∀ n b i : Nat, b ≤ i → i < backN head r n b → head.getD (head.length - 1 - i) 0 = rt r (-1 - (i : Int))
  | 0, b, i, h1, h2 => by simp [backN] at h2; omega
  | n + 1, b, i, h1, h2 => by
    unfold backN at h2
    split at h2
    · rename_i h
      by_cases e : i = b
      · subst e; exact h
      · exact backN_go head r n (b + 1) i (by omega) h2
    · omega
theorem backN_stop (head r : List Int) : ∀ n b : Nat, backN head r n b = b + n ∨ head.getD (head.length - 1 - backN head r n b) 0 ≠ rt r (-1 - (backN head r n b : Int))
  | 0, b => by simp [backN]
  | n + 1, b => by
    unfold backN
    split
    · have := backN_stop head r n (b + 1)
      rcases this with h | h
      · left; omega
      · right; exact h
    · rename_i h; right; exact h
theorem back_le (head r : List Int) : back head r ≤ head.length - 1 := by have := backN_le head r (head.length - 1) 0; unfold back; omega

theorem rt_nat {r : List Int} (h : r ≠ []) (i : Nat) : rt r (i : Int) = r.getD (i % r.length) 0 := by
  unfold rt
  have : ((i : Int) % (r.length : Int)).toNat = i % r.length := by
    rw [← Int.natCast_emod]; rfl
  rw [this]
theorem rt_add {r : List Int} (c k : Int) : rt r (c + k * r.length) = rt r c := by
  unfold rt
  rw [Int.add_mul_emod_self_right]
theorem rt_mod {r : List Int} (c : Int) : rt r (c % r.length) = rt r c := by
  unfold rt; rw [Int.emod_emod_of_dvd _ (Int.dvd_refl _)]
theorem rot_len (r : List Int) (c : Int) : (rot r c).length = r.length := by simp [rot]
theorem rot_get {r : List Int} {c : Int} {i : Nat} (h : i < r.length) : (rot r c).getD i 0 = rt r (c + i) := by
  simp [rot, List.getD, h]
theorem rt_rot {r : List Int} (h : r ≠ []) (c k : Int) : rt (rot r c) k = rt r (c + k) := by
  have hl : 0 < r.length := List.length_pos_iff.mpr h
  unfold rt
  rw [rot_len]
  have h1 : (k % (r.length : Int)).toNat < r.length := by
    have := Int.emod_lt_of_pos k (show (0 : Int) < r.length by omega)
    have := Int.emod_nonneg k (show (r.length : Int) ≠ 0 by omega)
    omega
  rw [rot_get h1]
  have h2 : (((k % (r.length : Int)).toNat : Nat) : Int) = k % r.length := by
    have := Int.emod_nonneg k (show (r.length : Int) ≠ 0 by omega); omega
  rw [h2]
  unfold rt
  congr 2
  rw [Int.add_emod_emod] 
theorem rot_zero {r : List Int} (h : r ≠ []) : rot r 0 = r := by
  apply List.ext_getElem
  · exact rot_len r 0
  · intro i h1 h2
    have e := rot_get (r := r) (c := 0) (i := i) h2
    simp only [List.getD, List.getElem?_eq_getElem h1, Option.getD_some] at e
    rw [e, Int.zero_add, rt_nat h, Nat.mod_eq_of_lt h2]
    simp [List.getD, h2]
/-- no shorter period -/
def Prim (r : List Int) : Prop := ∀ m : Nat, 1 ≤ m → m < r.length → r.length % m = 0 → ¬ Per r m
theorem per_rt {r : List Int} {m : Nat} (h0 : r ≠ []) (hm : 1 ≤ m) (hd : r.length % m = 0) : Per r m ↔ ∀ c : Int, rt r (c + m) = rt r c := by
  have hl : 0 < r.length := List.length_pos_iff.mpr h0
  constructor
  · intro h c
    -- by places mod m
    have key : ∀ c : Int, rt r c = r.getD (c % m).toNat 0 := fun c => by
      unfold rt
      have h1 : 0 ≤ c % (r.length : Int) := Int.emod_nonneg _ (by omega)
      have h2 : c % (r.length : Int) < r.length := Int.emod_lt_of_pos _ (by omega)
      rw [h _ (by omega)]
      congr 1
      have e : (((c % (r.length : Int)).toNat % m : Nat) : Int) = (c % r.length) % m := by
        rw [Int.natCast_emod, Int.toNat_of_nonneg h1]
      have hdv : (m : Int) ∣ (r.length : Int) := by
        have := Nat.dvd_of_mod_eq_zero hd; exact Int.natCast_dvd_natCast.mpr this
      rw [Int.emod_emod_of_dvd _ hdv] at e
      omega
    rw [key, key, Int.add_emod_right]
  · intro h i hi
    have e1 : r.getD i 0 = rt r (i : Int) := by rw [rt_nat h0, Nat.mod_eq_of_lt hi]
    have e2 : r.getD (i % m) 0 = rt r ((i % m : Nat) : Int) := by
      rw [rt_nat h0, Nat.mod_eq_of_lt (Nat.lt_of_le_of_lt (Nat.mod_le _ _) hi)]
    rw [e1, e2]
    have hk : ∀ k : Nat, ∀ c : Int, rt r (c + (k : Int) * m) = rt r c := fun k => by
      induction k with
      | zero => intro c; simp
      | succ k ih =>
        intro c
        have : c + ((k + 1 : Nat) : Int) * m = (c + (k : Int) * m) + m := by
          rw [Int.natCast_succ, Int.add_mul]; omega
        rw [this, h, ih]
    have := hk (i / m) ((i % m : Nat) : Int)
    rw [← this]
    congr 1
    have := Nat.mod_add_div i m
    have e3 : ((i % m : Nat) : Int) + ((i / m : Nat) : Int) * m = ((i % m + m * (i / m) : Nat) : Int) := by
      rw [Int.natCast_add, Int.natCast_mul, Int.mul_comm]
    rw [e3, this]
theorem prim_rot {r : List Int} (h0 : r ≠ []) (h : Prim r) (c : Int) : Prim (rot r c) := by
  intro m h1 h2 h3 hp
  rw [rot_len] at h2 h3
  have hne : rot r c ≠ [] := by
    intro e; have := rot_len r c; rw [e] at this; simp at this; exact h0 (List.length_eq_zero_iff.mp this.symm)
  refine h m h1 h2 h3 ((per_rt h0 h1 h3).mpr fun k => ?_)
  have := (per_rt hne h1 (by rw [rot_len]; exact h3)).mp hp (k - c)
  rw [rt_rot h0, rt_rot h0] at this
  have e1 : c + (k - c + (m : Int)) = k + m := by omega
  have e2 : c + (k - c) = k := by omega
  rw [e1, e2] at this
  exact this
theorem least_prim {r : List Int} (h0 : r ≠ []) : Prim (least r) ∧ least r ≠ [] := by
  have hl : 0 < r.length := List.length_pos_iff.mpr h0
  unfold least
  cases q : (sizes r).find? (sizeOk r) with
  | none =>
    show Prim r ∧ r ≠ []
    refine ⟨fun m h1 h2 h3 hp => ?_, h0⟩
    have := List.find?_eq_none.mp q m (by
      unfold sizes
      rw [List.mem_map]
      refine ⟨m - 1, List.mem_range.mpr ?_, by omega⟩
      -- a proper divisor is at most the half
      obtain ⟨k, hk⟩ := Nat.dvd_of_mod_eq_zero h3
      have hk2 : 2 ≤ k := by
        rcases Nat.lt_or_ge k 2 with h | h
        · have : k = 0 ∨ k = 1 := by omega
          rcases this with e | e
          · subst e; rw [Nat.mul_zero] at hk; omega
          · subst e; rw [Nat.mul_one] at hk; omega
        · exact h
      have : m * 2 ≤ m * k := Nat.mul_le_mul_left _ hk2
      omega)
    apply this
    unfold sizeOk
    rw [decide_eq_true h3, decide_eq_true hp]; rfl
  | some m =>
    show Prim (r.take m) ∧ r.take m ≠ []
    have hm := List.find?_some q
    unfold sizeOk at hm
    rw [Bool.and_eq_true] at hm
    have hd := of_decide_eq_true hm.1
    have hp := of_decide_eq_true hm.2
    have hmem := List.mem_of_find?_eq_some q
    unfold sizes at hmem
    rw [List.mem_map] at hmem
    obtain ⟨j, hj, ej⟩ := hmem
    have hj := List.mem_range.mp hj
    have hm1 : 1 ≤ m := by omega
    have hmr : m ≤ r.length := by omega
    have tl : (r.take m).length = m := by simp; omega
    have tg : ∀ i, i < m → (r.take m).getD i 0 = r.getD i 0 := fun i hi => by simp [List.getD, hi]
    refine ⟨fun k h1 h2 h3 hk => ?_, by intro e; have h9 := congrArg List.length e; rw [tl] at h9; rw [List.length_nil] at h9; omega⟩
    simp only [tl] at h2 h3
    -- k would have been found first
    have hlt : k < m := h2
    obtain ⟨as, bs, e1, e2⟩ := List.find?_eq_some_iff_append.mp q |>.2
    have hkin : k ∈ as := by
      have hs : sizes r = as ++ m :: bs := e1
      have hkm : k ∈ sizes r := by
        unfold sizes; rw [List.mem_map]; exact ⟨k - 1, List.mem_range.mpr (by omega), by omega⟩
      -- sizes is ascending
      have asc : (sizes r).Pairwise (· < ·) := by
        unfold sizes
        rw [List.pairwise_map]
        exact List.pairwise_lt_range.imp (by intro a b h; omega)
      rw [hs] at hkm asc
      rcases List.mem_append.mp hkm with h | h
      · exact h
      · rcases List.mem_cons.mp h with h | h
        · omega
        · have := (List.pairwise_append.mp asc).2.1
          rw [List.pairwise_cons] at this
          have := this.1 k h; omega
    have hno := e2 k hkin
    have hdk : r.length % k = 0 := Nat.mod_eq_zero_of_dvd (Nat.dvd_trans (Nat.dvd_of_mod_eq_zero h3) (Nat.dvd_of_mod_eq_zero hd))
    have hpk : Per r k := fun i hi => by
      rw [hp i hi]
      have him : i % m < m := Nat.mod_lt _ (by omega)
      have hik : i % m % k < m := Nat.lt_of_le_of_lt (Nat.mod_le _ _) him
      have := hk (i % m) (by rw [tl]; exact him)
      rw [tg _ him, tg _ hik] at this
      rw [this, Nat.mod_mod_of_dvd _ (Nat.dvd_of_mod_eq_zero h3)]
    have h : sizeOk r k = true := by unfold sizeOk; rw [decide_eq_true hdk, decide_eq_true hpk]; rfl
    rw [h] at hno
    cases hno
theorem least_of_prim {r : List Int} (h0 : r ≠ []) (h : Prim r) : least r = r := by
  have hl : 0 < r.length := List.length_pos_iff.mpr h0
  unfold least
  cases q : (sizes r).find? (sizeOk r) with
  | none => rfl
  | some m =>
    have hm := List.find?_some q
    unfold sizeOk at hm
    rw [Bool.and_eq_true] at hm
    have hmem := List.mem_of_find?_eq_some q
    unfold sizes at hmem
    rw [List.mem_map] at hmem
    obtain ⟨j, hj, ej⟩ := hmem
    have hj := List.mem_range.mp hj
    exact absurd (of_decide_eq_true hm.2) (h m (by omega) (by omega) (of_decide_eq_true hm.1))
/-- the one form: what is known of it -/
structure OneF (f r : List Int) : Prop where
  f0 : f ≠ []
  r0 : r ≠ []
  prim : Prim r
  last : f.length = 1 ∨ f.getD (f.length - 1) 0 ≠ rt r (-1)
theorem oneF {head loop : List Int} (h0 : head ≠ []) (l0 : loop ≠ []) : OneF (front head loop) (ring head loop) := by
  have hl : 0 < head.length := List.length_pos_iff.mpr h0
  obtain ⟨p1, p2⟩ := least_prim l0
  have b1 := back_le head (least loop)
  have fl : (front head loop).length = head.length - back head (least loop) := by unfold front; simp
  refine ⟨by intro e; rw [e] at fl; simp at fl; omega, ?_, prim_rot p2 p1 _, ?_⟩
  · intro e
    have := rot_len (least loop) (-(back head (least loop) : Int))
    unfold ring at e
    rw [e] at this
    exact p2 (List.length_eq_zero_iff.mp this.symm)
  · have := backN_stop head (least loop) (head.length - 1) 0
    rcases this with h | h
    · left; rw [fl]; unfold back; omega
    · right
      have e : (front head loop).getD ((front head loop).length - 1) 0 = head.getD (head.length - 1 - back head (least loop)) 0 := by
        rw [fl]
        unfold front
        have h1 : head.length - back head (least loop) - 1 = head.length - 1 - back head (least loop) := by omega
        rw [h1]
        have h2 : head.length - 1 - back head (least loop) < head.length - back head (least loop) := by omega
        simp only [List.getD, List.getElem?_take_of_lt h2]
      rw [e]
      unfold ring
      rw [rt_rot p2]
      have e2 : -(back head (least loop) : Int) + -1 = -1 - (back head (least loop) : Int) := by omega
      rw [e2]
      exact h
/-- the one form of the one form -/
theorem OneF.same {f r : List Int} (h : OneF f r) : front f r = f ∧ ring f r = r := by
  have hl : 0 < f.length := List.length_pos_iff.mpr h.f0
  have e1 := least_of_prim h.r0 h.prim
  have b0 : back f (least r) = 0 := by
    rw [e1]
    unfold back
    rcases h.last with h1 | h1
    · rw [h1]; rfl
    · cases q : f.length - 1 with
      | zero => rfl
      | succ n =>
        unfold backN
        rw [if_neg]
        rw [← q] at *
        simpa using h1
  constructor
  · unfold front; rw [b0]; simp
  · unfold ring; rw [b0, e1]
    have : -((0 : Nat) : Int) = 0 := by omega
    rw [this, rot_zero h.r0]
theorem rt_mem {r : List Int} (h : r ≠ []) (c : Int) : rt r c ∈ r := by
  have hl : 0 < r.length := List.length_pos_iff.mpr h
  unfold rt
  have h1 : 0 ≤ c % (r.length : Int) := Int.emod_nonneg _ (by omega)
  have h2 : c % (r.length : Int) < r.length := Int.emod_lt_of_pos _ (by omega)
  have h3 : (c % (r.length : Int)).toNat < r.length := by omega
  simp only [List.getD, List.getElem?_eq_getElem h3, Option.getD_some]
  exact List.getElem_mem h3
theorem least_mem {r : List Int} : ∀ x ∈ least r, x ∈ r := fun x hx => by
  unfold least at hx
  split at hx
  · exact List.mem_of_mem_take hx
  · exact hx
theorem ring_mem {head loop : List Int} (l0 : loop ≠ []) : ∀ x ∈ ring head loop, x ∈ loop := fun x hx => by
  unfold ring rot at hx
  rw [List.mem_map] at hx
  obtain ⟨i, _, rfl⟩ := hx
  exact least_mem _ (rt_mem (least_prim l0).2 _)
theorem front_mem {head loop : List Int} : ∀ x ∈ front head loop, x ∈ head := fun x hx => List.mem_of_mem_take hx
theorem front_tail {head loop : List Int} : ∀ x ∈ (front head loop).tail, x ∈ head.tail := fun x hx => by
  unfold front at hx
  cases head with
  | nil => simp at hx
  | cons h t =>
    cases q : (h :: t).length - back (h :: t) (least loop) with
    | zero => rw [q] at hx; simp at hx
    | succ n => rw [q, List.take_succ_cons] at hx; exact List.mem_of_mem_take hx
theorem ring_len {head loop : List Int} : (ring head loop).length ≤ loop.length := by
  unfold ring; rw [rot_len]; unfold least
  split
  · simp; omega
  · exact Nat.le_refl _
theorem front_len {head loop : List Int} : (front head loop).length ≤ head.length := by unfold front; simp
end Gd

set_option linter.all false
namespace Gd
/-! ### the content of a form -/
def Qf.cont (q : Qf) : Nat := Nat.gcd (Nat.gcd q.a.natAbs q.b.natAbs) q.c.natAbs
def Qf.Pr (q : Qf) : Prop := q.cont = 1
def Qf.redu (q : Qf) : Qf := ⟨q.a / q.cont, q.b / q.cont, q.c / q.cont⟩
theorem Qf.cont_dvd (q : Qf) : (q.cont : Int) ∣ q.a ∧ (q.cont : Int) ∣ q.b ∧ (q.cont : Int) ∣ q.c := by
  have h1 : q.cont ∣ Nat.gcd q.a.natAbs q.b.natAbs := Nat.gcd_dvd_left _ _
  refine ⟨?_, ?_, ?_⟩
  · exact Int.dvd_natAbs.mp (Int.natCast_dvd_natCast.mpr (Nat.dvd_trans h1 (Nat.gcd_dvd_left _ _)))
  · exact Int.dvd_natAbs.mp (Int.natCast_dvd_natCast.mpr (Nat.dvd_trans h1 (Nat.gcd_dvd_right _ _)))
  · exact Int.dvd_natAbs.mp (Int.natCast_dvd_natCast.mpr (Nat.gcd_dvd_right _ _))
theorem Qf.dvd_cont {q : Qf} {d : Nat} (h1 : (d : Int) ∣ q.a) (h2 : (d : Int) ∣ q.b) (h3 : (d : Int) ∣ q.c) : d ∣ q.cont := by
  refine Nat.dvd_gcd (Nat.dvd_gcd ?_ ?_) ?_
  · exact Int.natCast_dvd_natCast.mp (Int.dvd_natAbs.mpr h1)
  · exact Int.natCast_dvd_natCast.mp (Int.dvd_natAbs.mpr h2)
  · exact Int.natCast_dvd_natCast.mp (Int.dvd_natAbs.mpr h3)
theorem Qf.redu_scale (q : Qf) : q.redu.scale q.cont = q := by
  obtain ⟨h1, h2, h3⟩ := q.cont_dvd
  apply Qf.ext' <;> simp only [Qf.redu, Qf.scale]
  · exact Int.mul_ediv_cancel' h1
  · exact Int.mul_ediv_cancel' h2
  · exact Int.mul_ediv_cancel' h3
theorem Qf.cont_scale (k : Nat) (q : Qf) : (q.scale k).cont = k * q.cont := by
  unfold Qf.cont Qf.scale
  simp only [Int.natAbs_mul, Int.natAbs_natCast]
  rw [Nat.gcd_mul_left, Nat.gcd_mul_left]
theorem Qf.redu_pr {q : Qf} (h : q.a ≠ 0) : q.redu.Pr ∧ 0 < q.cont := by
  have hp : 0 < q.cont := by
    rcases Nat.eq_zero_or_pos q.cont with h0 | h0
    · have := q.cont_dvd.1
      rw [h0] at this
      exact absurd (Int.zero_dvd.mp this) h
    · exact h0
  refine ⟨?_, hp⟩
  have e := Qf.cont_scale q.cont q.redu
  rw [q.redu_scale] at e
  unfold Qf.Pr
  have : q.cont * 1 = q.cont * q.redu.cont := by rw [← e]; omega
  exact (Nat.eq_of_mul_eq_mul_left hp this).symm
/-- what divides a form divides the next one -/
theorem Qf.dvd_nxt {q : Qf} {d : Int} (t : Int) (h1 : d ∣ q.a) (h2 : d ∣ q.b) (h3 : d ∣ q.c) : d ∣ (q.nxt t).a ∧ d ∣ (q.nxt t).b ∧ d ∣ (q.nxt t).c := by
  obtain ⟨x, hx⟩ := h1
  obtain ⟨y, hy⟩ := h2
  obtain ⟨z, hz⟩ := h3
  refine ⟨⟨-(x * t * t + y * t + z), ?_⟩, ⟨-(2 * x * t + y), ?_⟩, ⟨-x, ?_⟩⟩ <;> simp only [Qf.nxt, hx, hy, hz] <;> grind
theorem Qf.dvd_run {d : Int} : ∀ (ts : List Int) (q : Qf), d ∣ q.a → d ∣ q.b → d ∣ q.c → d ∣ (q.run ts).a ∧ d ∣ (q.run ts).b ∧ d ∣ (q.run ts).c
  | [], q, h1, h2, h3 => ⟨h1, h2, h3⟩
  | t :: ts, q, h1, h2, h3 => by
    obtain ⟨k1, k2, k3⟩ := Qf.dvd_nxt t h1 h2 h3
    exact Qf.dvd_run ts (q.nxt t) k1 k2 k3
theorem Qf.pr_run {q : Qf} {ts : List Int} (h : (q.run ts).Pr) : q.Pr := by
  obtain ⟨h1, h2, h3⟩ := q.cont_dvd
  obtain ⟨k1, k2, k3⟩ := Qf.dvd_run ts q h1 h2 h3
  have := Qf.dvd_cont k1 k2 k3
  unfold Qf.Pr at h
  rw [h] at this
  exact Nat.dvd_one.mp this
theorem Qf.pr_moved {q : Qf} (ts : List Int) (h : q.Pr) : (q.moved (prod ts)).Pr := Qf.pr_run (ts := ts) (by rw [Qf.moved_run]; exact h)
theorem Qf.disc_moved (q : Qf) (ts : List Int) : (q.moved (prod ts)).disc = q.disc := by
  have := Qf.disc_run ts (q.moved (prod ts))
  rw [Qf.moved_run] at this
  exact this.symm
theorem side_unique {D s t : Int} (h : Side D s) (k : Side D t) : s = t := by
  obtain ⟨a0, a1, a2⟩ := h
  obtain ⟨b0, b1, b2⟩ := k
  rcases Int.lt_trichotomy s t with h | h | h
  · have := mul_lt (show s + 1 ≤ t by omega) (show s + 1 ≤ t by omega) (by omega) (by omega); omega
  · exact h
  · have := mul_lt (show t + 1 ≤ s by omega) (show t + 1 ≤ s by omega) (by omega) (by omega); omega
end Gd

set_option linter.all false
namespace Gd
/-! ### the states of a root: floors, and where they come again -/
def un (f r : List Int) (n : Nat) : Int := if n < f.length then f.getD n 0 else rt r ((n : Int) - f.length)
def uns (f r : List Int) (n : Nat) : List Int := (List.range n).map (un f r)
theorem uns_succ (f r : List Int) (n : Nat) : uns f r (n + 1) = uns f r n ++ [un f r n] := by unfold uns; rw [List.range_succ, List.map_append]; rfl
theorem uns_len (f r : List Int) (n : Nat) : (uns f r n).length = n := by simp [uns]
def St (q : Qf) (f r : List Int) (n : Nat) : Qf := q.run (uns f r n)
theorem St_zero (q : Qf) (f r : List Int) : St q f r 0 = q := rfl
theorem St_succ (q : Qf) (f r : List Int) (n : Nat) : St q f r (n + 1) = (St q f r n).nxt (un f r n) := by
  unfold St; rw [uns_succ, Qf.run_append]; rfl
theorem nxt_inj {p q : Qf} {t : Int} (h : p.nxt t = q.nxt t) : p = q := by
  obtain ⟨a, b, c⟩ := p
  obtain ⟨a', b', c'⟩ := q
  simp only [Qf.nxt, Qf.mk.injEq] at h
  obtain ⟨h1, h2, h3⟩ := h
  have ea : a = a' := by omega
  subst ea
  have eb : b = b' := by omega
  subst eb
  have ec : c = c' := by omega
  rw [ec]
theorem uns_front {f r : List Int} : uns f r f.length = f := by
  unfold uns
  apply List.ext_getElem
  · rw [List.length_map, List.length_range]
  · intro i h1 h2
    rw [List.getElem_map, List.getElem_range]
    unfold un
    rw [if_pos h2, List.getD_eq_getElem?_getD, List.getElem?_eq_getElem h2]; rfl
theorem un_ring {f r : List Int} (j : Nat) : un f r (f.length + j) = rt r (j : Int) := by
  unfold un
  rw [if_neg (by omega)]
  congr 1; omega
theorem rot_cons {r : List Int} (h : r ≠ []) (c : Int) : ∃ t, rot r c = rt r c :: t ∧ rot r (c + 1) = t ++ [rt r c] := by
  have hl : 0 < r.length := List.length_pos_iff.mpr h
  refine ⟨(List.range (r.length - 1)).map fun i : Nat => rt r (c + 1 + i), ?_, ?_⟩
  · unfold rot
    obtain ⟨n, hn⟩ : ∃ n, r.length = n + 1 := ⟨r.length - 1, by omega⟩
    rw [hn, List.range_succ_eq_map, List.map_cons, List.map_map, Nat.add_sub_cancel]
    congr 1
    · congr 1; omega
    · apply List.map_congr_left
      intro i _
      show rt r (c + ((i + 1 : Nat) : Int)) = _
      congr 1; omega
  · obtain ⟨n, hn⟩ : ∃ n, r.length = n + 1 := ⟨r.length - 1, by omega⟩
    have hr : rot r (c + 1) = (List.range r.length).map fun i : Nat => rt r (c + 1 + i) := rfl
    rw [hr, hn, List.range_succ, List.map_append, Nat.add_sub_cancel]
    congr 1
    show [rt r (c + 1 + (n : Int))] = _
    congr 1
    have := rt_add (r := r) c 1
    rw [← this]
    congr 1; omega
/-- a root behind a head and a ring -/
structure Rooted (q : Qf) (f r : List Int) (g D s : Int) : Prop where
  g0 : 0 < g
  ring : (q.run f).scale g = Qf.keep (prod r)
  dis : q.disc = D
  side : Side D s
  one : OneF f r
  ft : Pos f.tail
  rp : Pos r
section
variable {q : Qf} {f r : List Int} {g D s : Int}
theorem rot_pos {r : List Int} (h : Pos r) (h0 : r ≠ []) (c : Int) : Pos (rot r c) := fun x hx => by
  unfold rot at hx
  rw [List.mem_map] at hx
  obtain ⟨i, _, rfl⟩ := hx
  exact h _ (rt_mem h0 _)
theorem Rooted.st_ring (h : Rooted q f r g D s) : ∀ j : Nat, (St q f r (f.length + j)).scale g = Qf.keep (prod (rot r j))
  | 0 => by
    have e : St q f r (f.length + 0) = q.run f := by unfold St; rw [Nat.add_zero, uns_front]
    have e2 : rot r ((0 : Nat) : Int) = r := rot_zero h.one.r0
    rw [e, e2, h.ring]
  | j + 1 => by
    have ih := h.st_ring j
    rw [← Nat.add_assoc, St_succ, un_ring, ← Qf.nxt_scale, ih]
    obtain ⟨t, e1, e2⟩ := rot_cons h.one.r0 (j : Int)
    have e3 : ((j + 1 : Nat) : Int) = (j : Int) + 1 := by omega
    rw [e1, Qf.nxt_keep, e3, e2]
theorem Rooted.red (h : Rooted q f r g D s) (j : Nat) : Red (St q f r (f.length + j)) := by
  refine red_scale h.g0 ?_
  rw [h.st_ring j]
  have hne : rot r j ≠ [] := by
    intro e
    have := rot_len r j
    rw [e] at this
    exact h.one.r0 (List.length_eq_zero_iff.mp this.symm)
  exact red_keep (up_prod (rot_pos h.rp h.one.r0 _) hne) (det_prod_or _)
theorem Rooted.disc (h : Rooted q f r g D s) (n : Nat) : (St q f r n).disc = D := by unfold St; rw [Qf.disc_run, h.dis]
theorem Rooted.un_pos (h : Rooted q f r g D s) (n : Nat) : 1 ≤ un f r (n + 1) := by
  unfold un
  split
  · rename_i hn
    apply h.ft
    rw [List.getD_eq_getElem?_getD, List.getElem?_eq_getElem hn, Option.getD_some]
    have hi2 : n < f.tail.length := by rw [List.length_tail]; omega
    have := List.getElem_mem hi2
    rwa [List.getElem_tail] at this
  · exact h.rp _ (rt_mem h.one.r0 _)
theorem Rooted.rest (h : Rooted q f r g D s) : ∀ k n : Nat, f.length ≤ n + 1 + k → Below s (St q f r (n + 1)) 1
  | 0, n, hk => by
    obtain ⟨j, hj⟩ : ∃ j, n + 1 = f.length + j := ⟨n + 1 - f.length, by omega⟩
    rw [hj]
    exact (h.red j).below h.side (h.disc _)
  | k + 1, n, hk => by
    rcases Nat.lt_or_ge (n + 1) f.length with hlt | hge
    · have ih := h.rest k (n + 1) (by omega)
      rw [St_succ] at ih
      have := floor_of_rest h.side (h.disc (n + 1)) (a_ne h.side (h.disc (n + 1))) ih
      exact below_one this.1 (h.un_pos n)
    · exact h.rest 0 n (by omega)
theorem Rooted.floor (h : Rooted q f r g D s) (n : Nat) : floorBy (St q f r n).a (St q f r n).b s = un f r n := by
  have hr := h.rest (f.length) n (by omega)
  rw [St_succ] at hr
  have ha := a_ne h.side (h.disc n)
  obtain ⟨h1, h2⟩ := floor_of_rest h.side (h.disc n) ha hr
  exact floorBy_eq h1 h2 ha
theorem Rooted.same (h : Rooted q f r g D s) {i j : Nat} (e : St q f r i = St q f r j) : ∀ k : Nat, St q f r (i + k) = St q f r (j + k)
  | 0 => e
  | k + 1 => by
    have ih := h.same e k
    have hu : un f r (i + k) = un f r (j + k) := by rw [← h.floor, ← h.floor, ih]
    rw [← Nat.add_assoc, ← Nat.add_assoc, St_succ, St_succ, ih, hu]
theorem Rooted.sameU (h : Rooted q f r g D s) {i j : Nat} (e : St q f r i = St q f r j) (k : Nat) : un f r (i + k) = un f r (j + k) := by rw [← h.floor, ← h.floor, h.same e k]
theorem per_sub {r : List Int} {m n : Nat} (hm : ∀ c, rt r (c + m) = rt r c) (hn : ∀ c, rt r (c + n) = rt r c) : ∀ c, rt r (c + (Nat.gcd m n : Nat)) = rt r c := by
  have neg : ∀ m : Nat, (∀ c, rt r (c + m) = rt r c) → ∀ c, rt r (c - m) = rt r c := fun m h c => by
    have := h (c - m)
    rw [show c - (m : Int) + m = c by omega] at this
    exact this.symm
  induction m, n using Nat.gcd.induction with
  | H0 n => intro c; rw [Nat.gcd_zero_left]; exact hn c
  | H1 m n hpos ih =>
    intro c
    rw [Nat.gcd_rec]
    refine ih (fun c => ?_) hm c
    -- n % m
    have mul : ∀ k : Nat, ∀ c, rt r (c - (k : Int) * m) = rt r c := fun k => by
      induction k with
      | zero => intro c; simp
      | succ k ihk =>
        intro c
        have : c - ((k + 1 : Nat) : Int) * m = (c - (k : Int) * m) - m := by
          rw [Int.natCast_succ, Int.add_mul]; omega
        rw [this, neg m hm, ihk]
    have e : c + ((n % m : Nat) : Int) = (c + n) - ((n / m : Nat) : Int) * m := by
      have := Nat.mod_add_div n m
      have h2 : ((n % m : Nat) : Int) + (m : Int) * ((n / m : Nat) : Int) = n := by
        rw [← Int.natCast_mul, ← Int.natCast_add, this]
      rw [Int.mul_comm] at h2
      omega
    rw [e, mul, hn]
theorem prim_dvd {r : List Int} (h0 : r ≠ []) (hp : Prim r) {d : Nat} (hd : ∀ c, rt r (c + d) = rt r c) : r.length ∣ d := by
  have hl : 0 < r.length := List.length_pos_iff.mpr h0
  have h1 : ∀ c, rt r (c + (r.length : Nat)) = rt r c := fun c => by
    have := rt_add (r := r) c 1
    rwa [Int.one_mul] at this
  have hg := per_sub hd h1
  have hgd : Nat.gcd d r.length ∣ r.length := Nat.gcd_dvd_right _ _
  have hgp : 0 < Nat.gcd d r.length := Nat.gcd_pos_of_pos_right _ hl
  rcases Nat.lt_or_ge (Nat.gcd d r.length) r.length with hlt | hge
  · exact absurd ((per_rt h0 hgp (Nat.mod_eq_zero_of_dvd hgd)).mpr hg) (hp _ hgp hlt (Nat.mod_eq_zero_of_dvd hgd))
  · have := Nat.le_of_dvd hl hgd
    have e : Nat.gcd d r.length = r.length := by omega
    rw [← e]; exact Nat.gcd_dvd_left _ _
theorem Rooted.dvd (h : Rooted q f r g D s) {i d : Nat} (e : St q f r i = St q f r (i + d)) : r.length ∣ d := by
  have hl : 0 < r.length := List.length_pos_iff.mpr h.one.r0
  refine prim_dvd h.one.r0 h.one.prim fun c => ?_
  -- far enough to the right
  obtain ⟨k, j, hj⟩ : ∃ k : Nat, ∃ j : Nat, (f.length + j : Int) = i + k ∧ (j : Int) % r.length = c % r.length := by
    refine ⟨f.length + (c % r.length).toNat + r.length * i - i, (c % r.length).toNat + r.length * i, ?_, ?_⟩
    · have : i ≤ r.length * i := Nat.le_mul_of_pos_left _ hl
      omega
    · have h1 : 0 ≤ c % (r.length : Int) := Int.emod_nonneg _ (by omega)
      rw [Int.natCast_add, Int.natCast_mul, Int.toNat_of_nonneg h1, Int.add_mul_emod_self_left, Int.emod_emod_of_dvd _ (Int.dvd_refl _)]
  have hu := h.sameU e k
  have e1 : i + k = f.length + j := by omega
  have e2 : i + d + k = f.length + (j + d) := by omega
  rw [e1, e2, un_ring, un_ring] at hu
  have m1 : rt r c = rt r (j : Int) := by rw [← rt_mod c, ← rt_mod (j : Int), hj.2]
  have m2 : rt r (c + d) = rt r ((j : Int) + d) := by
    rw [← rt_mod (c + d), ← rt_mod ((j : Int) + d), Int.add_emod c, Int.add_emod (j : Int), hj.2]
  rw [m1, m2, hu]
  congr 1
theorem Rooted.back (h : Rooted q f r g D s) : St q f r (f.length + r.length) = St q f r f.length := by
  have h1 := h.st_ring r.length
  have h2 := h.st_ring 0
  have e : rot r ((r.length : Nat) : Int) = rot r ((0 : Nat) : Int) := by
    unfold rot
    apply List.map_congr_left
    intro i _
    have := rt_add (r := r) (((0 : Nat) : Int) + i) 1
    rw [← this]
    congr 1; omega
  rw [e, ← h2, Nat.add_zero] at h1
  have hg := h.g0
  simp only [Qf.scale, Qf.mk.injEq] at h1
  have inj : ∀ x y : Int, g * x = g * y → x = y := fun x y e => Int.eq_of_mul_eq_mul_left (by omega) e
  exact Qf.ext' (inj _ _ h1.1) (inj _ _ h1.2.1) (inj _ _ h1.2.2)
end
end Gd

set_option Elab.async false
set_option linter.all false
set_option maxRecDepth 100000
set_option maxHeartbeats 4000000
namespace Gw
open PySem PySem.Spec PyProof.Rows L2 DL
abbrev cTable (K : Frag) : Addr := He.ga K "Table"
abbrev cFrac (K : Frag) : Addr := He.ga K "Frac"
abbrev cRow (K : Frag) : Addr := He.ga K "Row"
abbrev cRoot (K : Frag) : Addr := He.ga K "Root"
/-- what the head of the program must show -/
structure Txt (K : Frag) (mg : Str → Option Value) : Prop where
  b_len : mg "len" = none
  b_range : mg "range" = none
  b_int : mg "int" = none
  b_bool : mg "bool" = none
  b_list : mg "list" = none
  b_tuple : mg "tuple" = none
  b_abs : mg "abs" = none
  b_max : mg "max" = none
  b_divmod : mg "divmod" = none
  b_isinstance : mg "isinstance" = none
  f_gcd : mg "gcd" = some (.builtin "math.gcd")
  f_isqrt : mg "isqrt" = some (.builtin "math.isqrt")
  g_MOST_EXPONENT_table : ∃ tk, mg "MOST_EXPONENT_table" = some (.int 1000 tk)
  g_MOST_TURNS : ∃ tk, mg "MOST_TURNS" = some (.int 5000 tk)
  g_LIMIT : ∃ tk, mg "LIMIT" = some (.int 1000 tk)
  g_MOST_POINTS : ∃ tk, mg "MOST_POINTS" = some (.int 500 tk)
  mgTable : mg "Table" = some (.ref (cTable K))
  mgFrac : mg "Frac" = some (.ref (cFrac K))
  mgRow : mg "Row" = some (.ref (cRow K))
  mgRoot : mg "Root" = some (.ref (cRoot K))
  clTable : Cls K (cTable K)
  clFrac : Cls K (cFrac K)
  clRow : Cls K (cRow K)
  clRoot : Cls K (cRoot K)
  nTable_a : NoAttr K (cTable K) "a"
  nTable_b : NoAttr K (cTable K) "b"
  nTable_c : NoAttr K (cTable K) "c"
  nTable_d : NoAttr K (cTable K) "d"
  nFrac_top : NoAttr K (cFrac K) "top"
  nFrac_bottom : NoAttr K (cFrac K) "bottom"
  nRow_head : NoAttr K (cRow K) "head"
  nRow_loop : NoAttr K (cRow K) "loop"
  nRow_kind : NoAttr K (cRow K) "kind"
  nRoot_a : NoAttr K (cRoot K) "a"
  nRoot_b : NoAttr K (cRoot K) "b"
  nRoot_c : NoAttr K (cRoot K) "c"
  nRoot_disc : NoAttr K (cRoot K) "disc"
  iTable : Isi K (cTable K)
  iFrac : Isi K (cFrac K)
  kTable : PySem.W.kitOne K (.ref (cTable K)) (.ref (cTable K)) = some true
  kFrac : PySem.W.kitOne K (.ref (cFrac K)) (.ref (cFrac K)) = some true
theorem cxK {CX : CXT} {P : Program} {w : World} {K : Frag} {mg : Str → Option Value} {base : Heap} {N : List Str} {nm : Str} {sc : Scope} {f : Addr} {cdv : Value} {A : Around} {outer : List Env} {s : Shared} {H : Hp} {E : XK} : (cxOf CX P w K mg base N nm sc f cdv A outer s H E).nox.K = K := rfl
theorem cxK' {CX : CXT} {P : Program} {w : World} {K : Frag} {mg : Str → Option Value} {base : Heap} {N : List Str} {nm : Str} {sc : Scope} {f : Addr} {cdv : Value} {A : Around} {outer : List Env} {s : Shared} {H : Hp} {E : XK} : (cxOf CX P w K mg base N nm sc f cdv A outer s H E).K = K := rfl
theorem asnL {env : Env} : ∀ {es : List Expr}, (assignEach es env).length = es.length
  | [] => by unfold assignEach; rfl
  | e :: es => by
    have ih := asnL (env := env) (es := es)
    unfold assignEach
    split <;> rename_i q
    · cases q
    · cases q; rw [List.length_cons, List.length_cons, ih]
    · cases q; rw [List.length_cons, List.length_cons, ih]
theorem gm_tup {K : Frag} {n : Nat} {gs : TGs} (hs : GMonos gs) : GMono (gTup K n gs) := fun v σ H Q Q' h q => by
  obtain ⟨a, xs, e, h1, h2, q⟩ := q
  exact ⟨a, xs, e, h1, h2, hs _ _ _ _ _ h q⟩
/-! data -/
abbrev dI (xs : List Int) : List D := xs.map D.int
abbrev dPr (t : Int) : D := .tup [.int t, .int 0]
abbrev dP (xs : List Int) : List D := xs.map dPr
abbrev nT : List Str := ["a", "b", "c", "d"]
abbrev nF : List Str := ["top", "bottom"]
abbrev nW : List Str := ["head", "loop", "kind"]
abbrev nR : List Str := ["a", "b", "c", "disc"]
abbrev dT (K : Frag) (x : Gd.Tb) : D := .ins (cTable K) nT [.int x.a, .int x.b, .int x.c, .int x.d]
abbrev dF (K : Frag) (p q : Int) : D := .ins (cFrac K) nF [.int p, .int q]
abbrev dW (K : Frag) (f r : List Int) : D := .ins (cRow K) nW [.tup (dI f), .tup (dP r), .str "looped"]
abbrev dR (K : Frag) (q : Gd.Qf) : D := .ins (cRoot K) nR [.int q.a, .int q.b, .int q.c, .int q.disc]
section
variable {K : Frag} {Δ Δ1 Δ2 : DE} {te : TE} {d a b c e : D} {ds : List D} {o : Out} {t u : TS} {i j l m n : Nat} {ta : TA} {tt : TT}
theorem xs_set (h : EvD K te Δ d Δ1) (k : ExD K u (Δ1.set i (.fr d)) o) : ExD K (tSeq (tAsg te (gName i)) u) Δ o := x_seq (x_set h) k
theorem xs_setL (h : EvL K te Δ ds Δ1) (k : ExD K u (Δ1.set i (.ow none ds)) o) : ExD K (tSeq (tAsg te (gName i)) u) Δ o := x_seq (x_setL h) k
theorem xs_as2 (h : EvD K te Δ (.tup [a, b]) Δ1) (k : ExD K u ((Δ1.set i (.fr a)).set j (.fr b)) o) : ExD K (tSeq (tAsg te (gTup K 2 (gCons (gName i) (gCons (gName j) gNil)))) u) Δ o :=
  x_seq (x_asg h (as_tup (as_cons as_name (as_cons as_name as_nil)) rfl)) k
theorem xs_as3 (h : EvD K te Δ (.tup [a, b, c]) Δ1) (k : ExD K u (((Δ1.set i (.fr a)).set j (.fr b)).set l (.fr c)) o) : ExD K (tSeq (tAsg te (gTup K 3 (gCons (gName i) (gCons (gName j) (gCons (gName l) gNil))))) u) Δ o :=
  x_seq (x_asg h (as_tup (as_cons as_name (as_cons as_name (as_cons as_name as_nil))) rfl)) k
theorem xs_as4 (h : EvD K te Δ (.tup [a, b, c, e]) Δ1) (k : ExD K u ((((Δ1.set i (.fr a)).set j (.fr b)).set l (.fr c)).set m (.fr e)) o) : ExD K (tSeq (tAsg te (gTup K 4 (gCons (gName i) (gCons (gName j) (gCons (gName l) (gCons (gName m) gNil)))))) u) Δ o :=
  x_seq (x_asg h (as_tup (as_cons as_name (as_cons as_name (as_cons as_name (as_cons as_name as_nil)))) rfl)) k
theorem xl_as2 (h : EvD K te Δ (.tup [a, b]) Δ1) : ExD K (tAsg te (gTup K 2 (gCons (gName i) (gCons (gName j) gNil)))) Δ (.nx ((Δ1.set i (.fr a)).set j (.fr b))) :=
  x_asg h (as_tup (as_cons as_name (as_cons as_name as_nil)) rfl)
theorem xl_as3 (h : EvD K te Δ (.tup [a, b, c]) Δ1) : ExD K (tAsg te (gTup K 3 (gCons (gName i) (gCons (gName j) (gCons (gName l) gNil))))) Δ (.nx (((Δ1.set i (.fr a)).set j (.fr b)).set l (.fr c))) :=
  x_asg h (as_tup (as_cons as_name (as_cons as_name (as_cons as_name as_nil))) rfl)
theorem xl_as4 (h : EvD K te Δ (.tup [a, b, c, e]) Δ1) : ExD K (tAsg te (gTup K 4 (gCons (gName i) (gCons (gName j) (gCons (gName l) (gCons (gName m) gNil)))))) Δ (.nx ((((Δ1.set i (.fr a)).set j (.fr b)).set l (.fr c)).set m (.fr e))) :=
  x_asg h (as_tup (as_cons as_name (as_cons as_name (as_cons as_name (as_cons as_name as_nil)))) rfl)
theorem xs_par (h : EvA K ta Δ [a, b] Δ1) (k : ExD K u ((Δ1.set i (.fr a)).set j (.fr b)) o) : ExD K (tSeq (tPar i j ta) u) Δ o := x_seq (x_par h) k
theorem xs_par3 (h : EvA K ta Δ [a, b, c] Δ1) (k : ExD K u (((Δ1.set i (.fr a)).set j (.fr b)).set l (.fr c)) o) : ExD K (tSeq (tPar3 i j l ta) u) Δ o := x_seq (x_par3 h) k
theorem xs_fld {C : Addr} {ns : List Str} {f : Str} {x : Addr} {k : Nat} (h : EvD K te Δ d Δ1) (h0 : Δ1[k]? = some (.oi x C ns ds)) (hc : Cls K C) (hn : NoAttr K C f) (hf : f ∉ ns) (hz : ns.length < 1000) (kk : ExD K u (Δ1.set k (.oi x C (ns ++ [f]) (ds ++ [d]))) o) : ExD K (tSeq (sFld K (tVar k) te f) u) Δ o := x_seq (x_fld h h0 hc hn hf hz) kk
theorem xs_guard {b : Bool} (h : EvT K tt Δ b Δ1) (e : b = false) (k : ExD K u Δ1 o) : ExD K (tSeq (tIfS tt tNever tNext) u) Δ o := x_seq (x_guard h e) k
theorem xs_if_t {b : Bool} {v : TS} (h : EvT K tt Δ b Δ1) (e : b = true) (h1 : ExD K t Δ1 (.nx Δ2)) (k : ExD K u Δ2 o) : ExD K (tSeq (tIfS tt t v) u) Δ o := x_seq (x_if_t (e ▸ h) h1) k
theorem xs_if_f {b : Bool} {v : TS} (h : EvT K tt Δ b Δ1) (e : b = false) (h1 : ExD K v Δ1 (.nx Δ2)) (k : ExD K u Δ2 o) : ExD K (tSeq (tIfS tt t v) u) Δ o := x_seq (x_if_f (e ▸ h) h1) k
/-- an early return is not taken -/
theorem xs_skip {b : Bool} (h : EvT K tt Δ b Δ1) (e : b = false) (k : ExD K u Δ1 o) : ExD K (tSeq (tIfS tt t tNext) u) Δ o := x_seq (x_if_f (e ▸ h) x_next) k
/-- an early return is taken -/
theorem xs_take {b : Bool} {v : TS} (h : EvT K tt Δ b Δ1) (e : b = true) (h1 : ExD K t Δ1 (.rt d)) : ExD K (tSeq (tIfS tt t v) u) Δ (.rt d) := x_seq_rt (x_if_t (e ▸ h) h1)
theorem xl_if_t {b : Bool} {v : TS} (h : EvT K tt Δ b Δ1) (e : b = true) (h1 : ExD K t Δ1 o) : ExD K (tIfS tt t v) Δ o := x_if_t (e ▸ h) h1
theorem xl_if_f {b : Bool} {v : TS} (h : EvT K tt Δ b Δ1) (e : b = false) (h1 : ExD K v Δ1 o) : ExD K (tIfS tt t v) Δ o := x_if_f (e ▸ h) h1
theorem x_toF (h : ExD K t Δ (.nx Δ1)) (e : Δ1.set i .un = Δ2) : ExD K t Δ (.nx Δ2) := e ▸ x_forgetR h
theorem x_toF2 (h : ExD K t Δ (.nx Δ1)) (e : (Δ1.set i .un).set j .un = Δ2) : ExD K t Δ (.nx Δ2) := e ▸ x_forgetR (x_forgetR h)
theorem x_toF3 (h : ExD K t Δ (.nx Δ1)) (e : ((Δ1.set i .un).set j .un).set l .un = Δ2) : ExD K t Δ (.nx Δ2) := e ▸ x_forgetR (x_forgetR (x_forgetR h))
theorem xs_while {n : Nat} (I : Nat → DE) (h0 : Δ = I 0) (hs : ∀ i, i < n → EvT K tt (I i) true (I i) ∧ ExD K t (I i) (.nx (I (i + 1)))) (he : EvT K tt (I n) false (I n)) (k : ExD K u (I n) o) : ExD K (tSeq (tWhile tt t) u) Δ o := by
  rw [h0]
  exact x_seq (x_while I (fun i hi => ⟨_, (hs i hi).1, .inl (hs i hi).2⟩) he) k
theorem xs_for {wi : TI} {g : TG} (I : Nat → DE) (hi : EvI K wi Δ ds (I 0)) (hs : ∀ (i : Nat) (d : D), ds[i]? = some d → ∃ Δ', AsD K g (I i) d Δ' ∧ ExD K t Δ' (.nx (I (i + 1)))) (n : Nat) (hn : ds.length = n) (k : ExD K u (I n) o) : ExD K (tSeq (tFor wi g t) u) Δ o := by
  subst hn
  exact x_seq (x_for hi I rfl fun i d _ hd => by obtain ⟨Δ', h1, h2⟩ := hs i d hd; exact ⟨Δ', h1, .inl h2⟩) k
theorem xl_for {wi : TI} {g : TG} (I : Nat → DE) (hi : EvI K wi Δ ds (I 0)) (hs : ∀ (i : Nat) (d : D), ds[i]? = some d → ∃ Δ', AsD K g (I i) d Δ' ∧ ExD K t Δ' (.nx (I (i + 1)))) (n : Nat) (hn : ds.length = n) : ExD K (tFor wi g t) Δ (.nx (I n)) := by
  subst hn
  exact x_for hi I rfl fun i d _ hd => by obtain ⟨Δ', h1, h2⟩ := hs i d hd; exact ⟨Δ', h1, .inl h2⟩
theorem cutD_take {n : Nat} (h : n ≤ ds.length) : DL.cutD ds none (some (n : Int)) = ds.take n := by
  unfold DL.cutD
  rw [HT.sIx_none, HT.sIx_nat, List.drop_zero, Nat.sub_zero, Nat.min_eq_left h]
theorem cutD_drop {n : Nat} (h : n ≤ ds.length) : DL.cutD ds (some (n : Int)) none = ds.drop n := by
  unfold DL.cutD
  rw [HT.sIx_none, HT.sIx_nat, Nat.min_eq_left h, List.take_of_length_le (by simp)]
theorem hnoB {vs : List Nat} (h : (vs.all fun i => match Δ[i]? with | some s => !s.own | none => true) = true) : ∀ i ∈ vs, ∀ s, Δ[i]? = some s → s.own = false := fun i hi s hs => by
  have := List.all_eq_true.mp h i hi
  rw [hs] at this
  simpa using this
theorem x_to (h : ExD K t Δ (.nx Δ1)) (e : Δ1 = Δ2) : ExD K t Δ (.nx Δ2) := e ▸ h
end
/-! bounds -/
def Bd (k : Nat) (i : Int) : Prop := i.natAbs < 2 ^ k
theorem Bd.le {k l : Nat} {i : Int} (h : Bd k i) (e : k ≤ l) : Bd l i := Nat.lt_of_lt_of_le h (Nat.pow_le_pow_right (by decide) e)
theorem Bd.neg {k : Nat} {i : Int} (h : Bd k i) : Bd k (-i) := by unfold Bd at *; rwa [Int.natAbs_neg]
theorem Bd.mul {k l : Nat} {i j : Int} (h : Bd k i) (h' : Bd l j) : Bd (k + l) (i * j) := by
  unfold Bd at *
  rw [Int.natAbs_mul, Nat.pow_add]
  exact Nat.mul_lt_mul_of_lt_of_lt h h'
theorem Bd.add {k l : Nat} {i j : Int} (h : Bd k i) (h' : Bd l j) : Bd (k + l + 1) (i + j) := by
  unfold Bd at *
  have h1 : 2 ^ k ≤ 2 ^ (k + l) := Nat.pow_le_pow_right (by decide) (by omega)
  have h2 : 2 ^ l ≤ 2 ^ (k + l) := Nat.pow_le_pow_right (by decide) (by omega)
  rw [Nat.pow_succ]
  omega
theorem Bd.addm {k : Nat} {i j : Int} (h : Bd k i) (h' : Bd k j) : Bd (k + 1) (i + j) := by
  unfold Bd at *
  rw [Nat.pow_succ]
  omega
theorem Bd.sub {k l : Nat} {i j : Int} (h : Bd k i) (h' : Bd l j) : Bd (k + l + 1) (i - j) := by
  rw [Int.sub_eq_add_neg]; exact h.add h'.neg
theorem Bd.log {k : Nat} {i : Int} (h : Bd k i) : i.natAbs.log2 ≤ k := by
  rcases Nat.eq_zero_or_pos i.natAbs with e | e
  · rw [e]; exact Nat.zero_le _
  · exact Nat.le_of_lt ((Nat.log2_lt (by omega)).mpr h)
theorem Bd.cm {k l : Nat} {i j : Int} (h : Bd k i) (h' : Bd l j) (e : k + l < 1000000) : CMulW i j := by
  have := h.log; have := h'.log
  unfold CMulW; omega
theorem Bd.cd {l : Nat} {i j : Int} (h' : Bd l j) (h0 : 0 < j) (e : l < 9000) : CDivW i j := by
  have := h'.log
  exact ⟨h0, by omega⟩
theorem Bd.ediv {k : Nat} {i j : Int} (h : Bd k i) (h0 : 0 < j) : Bd k (i / j) := by
  unfold Bd at *
  have : (i / j).natAbs ≤ i.natAbs := by
    rcases Int.lt_or_le i 0 with hi | hi
    · have h1 : i ≤ i / j := by
        rw [Int.le_ediv_iff_mul_le h0]
        have := Int.mul_le_mul_of_nonpos_left (a := i) (show i ≤ 0 by omega) (show 1 ≤ j by omega)
        omega
      have h2 : i / j < 0 := Int.ediv_neg_of_neg_of_pos hi h0
      omega
    · have h1 := Int.ediv_le_self j hi
      have h2 := Int.ediv_nonneg hi (show 0 ≤ j by omega)
      omega
  omega
theorem Bd.i0 : Bd 0 0 := by unfold Bd; decide
theorem Bd.i1 : Bd 1 1 := by unfold Bd; decide
theorem Bd.i2 : Bd 2 2 := by unfold Bd; decide
theorem Bd.i4 : Bd 3 4 := by unfold Bd; decide
theorem Bd.m2 : Bd 2 (-2) := by unfold Bd; decide
theorem Bd.m1 : Bd 1 (-1) := by unfold Bd; decide
structure BdT (k : Nat) (x : Gd.Tb) : Prop where
  a : Bd k x.a
  b : Bd k x.b
  c : Bd k x.c
  d : Bd k x.d
theorem BdT.le {k l : Nat} {x : Gd.Tb} (h : BdT k x) (e : k ≤ l) : BdT l x := ⟨h.a.le e, h.b.le e, h.c.le e, h.d.le e⟩
theorem BdT.one : BdT 1 Gd.Tb.one := ⟨Bd.i1, Bd.i0.le (by decide), Bd.i0.le (by decide), Bd.i1⟩
theorem BdT.step {k l : Nat} {x : Gd.Tb} {t : Int} (h : BdT k x) (ht : Bd l t) : BdT (k + l + 1) (x.step t) :=
  ⟨(h.a.mul ht).addm (h.b.le (by omega)), h.a.le (by omega), (h.c.mul ht).addm (h.d.le (by omega)), h.c.le (by omega)⟩
theorem BdT.prod {l : Nat} : ∀ {ts : List Int}, (∀ t ∈ ts, Bd l t) → BdT (1 + ts.length * (l + 1)) (Gd.prod ts) := by
  have key : ∀ (ts : List Int) (x : Gd.Tb) (k : Nat), BdT k x → (∀ t ∈ ts, Bd l t) → BdT (k + ts.length * (l + 1)) (ts.foldl Gd.Tb.step x) := fun ts => by
    induction ts with
    | nil => intro x k h _; simpa using h
    | cons t r ih =>
      intro x k h ht
      have := ih (x.step t) _ (h.step (ht t List.mem_cons_self)) (fun u hu => ht u (List.mem_cons_of_mem _ hu))
      refine this.le ?_
      rw [List.length_cons, Nat.succ_mul]; omega
  intro ts h
  exact key ts _ _ BdT.one h
theorem BdT.mul {k l : Nat} {x y : Gd.Tb} (h : BdT k x) (h' : BdT l y) : BdT (k + l + 1) (x.mul y) :=
  ⟨(h.a.mul h'.a).addm (h.b.mul h'.c), (h.a.mul h'.b).addm (h.b.mul h'.d), (h.c.mul h'.a).addm (h.d.mul h'.c), (h.c.mul h'.b).addm (h.d.mul h'.d)⟩
theorem BdT.neg {k : Nat} {x : Gd.Tb} (h : BdT k x) : BdT k x.neg := ⟨h.a.neg, h.b.neg, h.c.neg, h.d.neg⟩
theorem BdT.adj {k : Nat} {x : Gd.Tb} (h : BdT k x) : BdT k x.adj := ⟨h.d, h.b.neg, h.c.neg, h.a⟩
theorem BdT.inv {k : Nat} {x : Gd.Tb} (h : BdT k x) : BdT k x.inv := by
  unfold Gd.Tb.inv; split
  · exact h.adj
  · exact h.adj.neg
theorem dI_items {xs : List Int} : (D.lst (dI xs)).items = some (dI xs) := rfl
theorem dI_get {xs : List Int} {i : Nat} {d : D} (h : (dI xs)[i]? = some d) : ∃ t, xs[i]? = some t ∧ d = .int t := by
  rw [List.getElem?_map] at h
  cases q : xs[i]? with
  | none => rw [q] at h; cases h
  | some t => rw [q] at h; exact ⟨t, rfl, (Option.some.inj h).symm⟩
theorem dP_get {xs : List Int} {i : Nat} {d : D} (h : (dP xs)[i]? = some d) : ∃ t, xs[i]? = some t ∧ d = dPr t := by
  rw [List.getElem?_map] at h
  cases q : xs[i]? with
  | none => rw [q] at h; cases h
  | some t => rw [q] at h; exact ⟨t, rfl, (Option.some.inj h).symm⟩
theorem atI_nat {α : Type} {xs : List α} {i : Nat} {x : α} (h : xs[i]? = some x) : atI xs (i : Int) = some x := by
  have hl : i < xs.length := by
    rcases Nat.lt_or_ge i xs.length with h1 | h1
    · exact h1
    · rw [List.getElem?_eq_none h1] at h; cases h
  unfold atI ixN
  rw [if_pos (by omega), if_pos (by omega)]
  exact h
end Gw


set_option Elab.async false
set_option linter.all false
set_option maxRecDepth 100000
set_option maxHeartbeats 4000000
namespace Gw
open PySem PySem.Spec PyProof.Rows L2 DL
local macro_rules | `(tactic| walk_at "bd") => `(tactic| first
  | assumption
  | exact Bd.i0 | exact Bd.i1 | exact Bd.i2 | exact Bd.i4 | exact Bd.m2 | exact Bd.m1
  | ((with_reducible apply BdT.a) <;> assumption) | ((with_reducible apply BdT.b) <;> assumption) | ((with_reducible apply BdT.c) <;> assumption) | ((with_reducible apply BdT.d) <;> assumption)
  | ((with_reducible apply Bd.mul) <;> walk_at "bd")
  | ((with_reducible apply Bd.add) <;> walk_at "bd")
  | ((with_reducible apply Bd.sub) <;> walk_at "bd")
  | ((with_reducible apply Bd.neg) <;> walk_at "bd"))
local macro_rules | `(tactic| walk_at "ev") => `(tactic| first
  | ((with_reducible show ExD _ _ _ _); try dsimp only [List.set])
  | with_reducible exact ev_int | with_reducible exact ev_non | with_reducible exact ev_bl | with_reducible exact ev_str
  | ((with_reducible apply ev_var); exact rfl)
  | with_reducible exact ea_nil
  | ((with_reducible apply ea_cons) <;> walk_at "ev")
  | ((with_reducible apply ev_add) <;> walk_at "ev")
  | ((with_reducible apply ev_sub) <;> walk_at "ev")
  | ((with_reducible apply ev_mul) <;> walk_at "ev")
  | ((with_reducible apply ev_fdiv) <;> walk_at "ev")
  | ((with_reducible apply ev_mod) <;> walk_at "ev")
  | ((with_reducible apply ev_lt) <;> walk_at "ev")
  | ((with_reducible apply ev_le) <;> walk_at "ev")
  | ((with_reducible apply ev_gt) <;> walk_at "ev")
  | ((with_reducible apply ev_ge) <;> walk_at "ev")
  | ((with_reducible apply ev_eqS (tb := tC (V.str _)) (hb := ev_str)) <;> walk_at "ev")
  | ((with_reducible apply ev_neS (tb := tC (V.str _)) (hb := ev_str)) <;> walk_at "ev")
  | ((with_reducible apply ev_eqI) <;> walk_at "ev")
  | ((with_reducible apply ev_neI) <;> walk_at "ev")
  | ((with_reducible apply ev_neg) <;> walk_at "ev")
  | ((with_reducible apply ev_gcd) <;> walk_at "ev")
  | ((with_reducible apply ev_fld) <;> walk_at "ev")
  | ((with_reducible apply et_test) <;> walk_at "ev")
  | ((with_reducible apply et_B) <;> walk_at "ev")
  | ((with_reducible apply et_not) <;> walk_at "ev")
  | ((with_reducible apply ev_tup) <;> walk_at "ev")
  | ((with_reducible apply ev_make') <;> walk_at "ev")
  | ((with_reducible apply ev_call') <;> walk_at "ev")
  | ((with_reducible apply ev_meth') <;> walk_at "ev")
  | ((with_reducible show List.length _ = _); exact rfl)
  | ((with_reducible show List.length _ + 1 = _); exact rfl)
  | ((with_reducible show List.lookup _ _ = _); exact rfl)
  | ((with_reducible apply et_or') <;> walk_at "ev")
  | ((with_reducible apply et_and') <;> walk_at "ev")
  | ((with_reducible apply ev_own2) <;> walk_at "ev")
  | ((with_reducible apply ev_own1) <;> walk_at "ev")
  | ((with_reducible apply ev_st) <;> walk_at "ev")
  | ((with_reducible apply ev_abs) <;> walk_at "ev")
  | ((with_reducible apply ev_max2) <;> walk_at "ev")
  | ((with_reducible apply ev_divmod) <;> walk_at "ev")
  | ((with_reducible apply ev_intI) <;> walk_at "ev")
  | ((with_reducible apply ev_isN) <;> walk_at "ev")
  | ((with_reducible apply ev_notN) <;> walk_at "ev")
  | ((with_reducible apply ev_eqS) <;> walk_at "ev")
  | ((with_reducible apply ev_neS) <;> walk_at "ev")
  | ((with_reducible apply ev_lenO); exact rfl)
  | ((with_reducible apply ev_len) <;> walk_at "ev")
  | ((with_reducible show D.items _ = _); first | assumption | exact rfl)
  | ((with_reducible show rTableI _ _ _); exact ⟨rfl, rfl⟩)
  | ((with_reducible show _ = false); first | rfl | (simp; done) | (simp; omega))
  | ((with_reducible show _ = true); first | rfl | (simp; done) | (simp; omega))
  | ((with_reducible show 2 = _); exact rfl)
  | ((with_reducible show 1 = _); exact rfl)
  | exact Txt.clTable ‹_› | exact Txt.clFrac ‹_› | exact Txt.clRow ‹_› | exact Txt.clRoot ‹_›
  | exact Txt.nTable_a ‹_› | exact Txt.nTable_b ‹_› | exact Txt.nTable_c ‹_› | exact Txt.nTable_d ‹_› | exact Txt.nFrac_top ‹_› | exact Txt.nFrac_bottom ‹_›
  | exact Txt.nRow_head ‹_› | exact Txt.nRow_loop ‹_› | exact Txt.nRow_kind ‹_› | exact Txt.nRoot_a ‹_› | exact Txt.nRoot_b ‹_› | exact Txt.nRoot_c ‹_› | exact Txt.nRoot_disc ‹_›
  | ((with_reducible apply Bd.cm) <;> first | walk_at "bd" | omega)
  | ((with_reducible show _ ≤ _); simp only [List.length_cons, List.length_nil]; omega)
  | ((with_reducible intro _); walk_at "ev")
  | skip)
local macro_rules | `(tactic| walk_at "set") => `(tactic| ((with_reducible apply xs_set) <;> walk_at "ev"))
local macro_rules | `(tactic| walk_at "ret") => `(tactic| ((with_reducible apply x_ret) <;> walk_at "ev"))
local macro_rules | `(tactic| walk_at "as4") => `(tactic| ((with_reducible (first | apply xs_as4 | apply xl_as4)) <;> walk_at "ev"))
local macro_rules | `(tactic| walk_at "as3") => `(tactic| ((with_reducible (first | apply xs_as3 | apply xl_as3)) <;> walk_at "ev"))
local macro_rules | `(tactic| walk_at "as2") => `(tactic| ((with_reducible (first | apply xs_as2 | apply xl_as2)) <;> walk_at "ev"))
local macro_rules | `(tactic| walk_at "par") => `(tactic| ((with_reducible (first | apply xs_par | apply x_par)) <;> walk_at "ev"))
local macro_rules | `(tactic| walk_at "fld") => `(tactic| ((with_reducible (first | apply xs_fld | apply x_fld)) <;> first | exact rfl | decide | walk_at "ev"))
local macro_rules | `(tactic| walk_at "guard") => `(tactic| ((with_reducible apply xs_guard) <;> walk_at "ev"))
local macro_rules | `(tactic| walk_at "skip") => `(tactic| ((with_reducible apply xs_skip) <;> walk_at "ev"))
local macro_rules | `(tactic| walk_at "take") => `(tactic| ((with_reducible apply xs_take) <;> walk_at "ev"))
local macro_rules | `(tactic| walk_at "clean") => `(tactic| try simp only [cxK, cxK', asnL, List.length_cons, List.length_nil, Nat.zero_add, Nat.reduceAdd])
section
variable {P : Program} {w : World} {K : Frag} {mg : Str → Option Value} {base : Heap}
def rTableI : List D → List Str → List D → Prop := fun ds ns xs => ns = nT ∧ xs = ds
inductive rTurnsTable (K : Frag) : List D → D → Prop
  | mk (x : D) (ts : List Int) (b : Nat) (hx : x.items = some (dI ts)) (hb : ∀ t ∈ ts, Bd b t) (hm : ts.length * (b + 1) + b ≤ 400000) : rTurnsTable K [x] (dT K (Gd.prod ts))
abbrev N_Tabled_initd : List Str := [("self" : Str), ("a" : Str), ("b" : Str), ("c" : Str), ("d" : Str)]
theorem sc_Tabled_initd : FnScope N_Tabled_initd [("self" : Str), ("a" : Str), ("b" : Str), ("c" : Str), ("d" : Str)] (defScope s_Tabled_initd) := ⟨rfl, rfl, rfl, by decide +kernel, rfl, by decide +kernel, by decide +kernel⟩
theorem ok_Tabled_initd {f : Addr} {fd : FuncData} (F : FunD K "__init__" "Table.__init__" (defArgs s_Tabled_initd) (defBody s_Tabled_initd) (defScope s_Tabled_initd) [] [] f fd) (hb : Binds K fd [("self" : Str), ("a" : Str), ("b" : Str), ("c" : Str), ("d" : Str)] []) (T : Txt K mg) : FnR P w K mg base CX0 1 f (spI K (cTable K) 4 rTableI) := by
  have B : FnOk P w K mg base CX0 1 f fd [("self" : Str), ("a" : Str), ("b" : Str), ("c" : Str), ("d" : Str)] (spI K (cTable K) 4 rTableI) := by
    refine F.ok sc_Tabled_initd (fun vs H Q E h => h.1) (fun cdv A outer s H vs Q E hr h => ?_)
    have hu := hr.units
    have hu1 : _ + 1 < cLine := Nat.lt_of_le_of_lt (Nat.add_le_add_left (by decide : 1 ≤ 64) _) hr.units
    have nd := sc_Tabled_initd.nd
    refine ⟨_, PSs.nox (pss_cons (ps_fld (pv 0) (pv 1) rfl)
      (pss_cons (ps_fld (pv 0) (pv 2) rfl)
      (pss_cons (ps_fld (pv 0) (pv 3) rfl)
      (pss_one (ps_fld (pv 0) (pv 4) rfl))))), enterI h (by decide) ?_⟩
    rintro ds ns xs ⟨rfl, rfl⟩ hl x
    match xs, hl with
    | [a, b, c, d], _ =>
      refine ⟨_, ?_, x_seq (x_fld (ev_var rfl) rfl T.clTable T.nTable_a (by decide) (by decide)) (x_seq (x_fld (ev_var rfl) rfl T.clTable T.nTable_b (by decide) (by decide)) (x_seq (x_fld (ev_var rfl) rfl T.clTable T.nTable_c (by decide) (by decide)) (x_fld (ev_var rfl) rfl T.clTable T.nTable_d (by decide) (by decide))))⟩
      rfl
  exact (B.raw hb .nil).imp fun vs H Q E h => by rw [List.append_nil]; exact h
abbrev N_turns_table : List Str := [("turns" : Str), ("a" : Str), ("b" : Str), ("c" : Str), ("d" : Str), ("turn" : Str)]
theorem sc_turns_table : FnScope N_turns_table [("turns" : Str)] (defScope s_turns_table) := ⟨rfl, rfl, rfl, by decide +kernel, rfl, by decide +kernel, by decide +kernel⟩
theorem ok_turns_table {f : Addr} {fd : FuncData} (F : FunD K "turns_table" "turns_table" (defArgs s_turns_table) (defBody s_turns_table) (defScope s_turns_table) [] [] f fd) (hb : Binds K fd [("turns" : Str)] []) (T : Txt K mg) (h_Tabled_initd : Mkr P w K mg base "Table" (cTable K) 1 (spI K (cTable K) 4 rTableI)) : FnR P w K mg base CX0 3 f (spD K 1 (rTurnsTable K)) := by
  have B : FnOk P w K mg base CX0 3 f fd [("turns" : Str)] (spD K 1 (rTurnsTable K)) := by
    refine F.ok sc_turns_table (fun vs H Q E h => h.1) (fun cdv A outer s H vs Q E hr h => ?_)
    have hr1 : Room 1 _ := hr.mono (by decide)
    have hr2 : Room 2 _ := hr.mono (by decide)
    have hu := hr.units
    have hu1 : _ + 1 < cLine := Nat.lt_of_le_of_lt (Nat.add_le_add_left (by decide : 1 ≤ 64) _) hr.units
    have nd := sc_turns_table.nd
    refine ⟨_, PSs.nox (pss_cons (ps_asg (pe_tup (pa_cons pe_int (pa_cons pe_int (pa_cons pe_int (pa_cons pe_int pa_nil))))) (pg_tup rfl (pgs_cons (pg_name (i := 1) nd rfl (Or.inl rfl)) (pgs_cons (pg_name (i := 2) nd rfl (Or.inl rfl)) (pgs_cons (pg_name (i := 3) nd rfl (Or.inl rfl)) (pgs_cons (pg_name (i := 4) nd rfl (Or.inl rfl)) pgs_nil))))))
      (pss_cons (ps_for PassesOwn.never rfl (pi_seq (pv 0)) (pg_name (i := 5) nd rfl (Or.inl rfl)) (pss_cons (ps_par (i := 1) (j := 2) rfl nd rfl rfl (by decide) rfl rfl (pa_cons (pe_op op_add (pe_op op_mulW (pv 1) (pv 5)) (pv 2)) (pa_cons (pv 1) pa_nil)) (by rfl))
        (pss_one (ps_par (i := 3) (j := 4) rfl nd rfl rfl (by decide) rfl rfl (pa_cons (pe_op op_add (pe_op op_mulW (pv 3) (pv 5)) (pv 4)) (pa_cons (pv 3) pa_nil)) (by rfl)))))
      (pss_one (ps_ret (pe_mkr h_Tabled_initd hr2 rfl (pa_cons (pv 1) (pa_cons (pv 2) (pa_cons (pv 3) (pa_cons (pv 4) pa_nil))))))))), enter h (by decide) ?_⟩
    rintro _ _ ⟨x, ts, b, hx, hb, hm⟩ _
    left
    show ExD K _ [.fr x, .un, .un, .un, .un, .un] _
    walk_at "clean"
    walk_at "as4"
    refine x_seq (x_for (ei_seq (ev_var rfl) hx) (fun i => [.fr x, .fr (.int (Gd.prod (ts.take i)).a), .fr (.int (Gd.prod (ts.take i)).b), .fr (.int (Gd.prod (ts.take i)).c), .fr (.int (Gd.prod (ts.take i)).d), .un]) rfl ?_) ?_
    · intro i d hi hd
      obtain ⟨t, ht, rfl⟩ := dI_get hd
      have hil : i < ts.length := by rw [List.length_map] at hi; exact hi
      have hP : BdT (1 + ts.length * (b + 1)) (Gd.prod (ts.take i)) := (BdT.prod fun t h => hb t (List.mem_of_mem_take h)).le (by
        have := Nat.mul_le_mul_right (b + 1) (show (ts.take i).length ≤ ts.length by simp; omega)
        omega)
      have hT : Bd b t := hb t (List.mem_of_getElem? ht)
      have e : Gd.prod (ts.take (i + 1)) = (Gd.prod (ts.take i)).step t := by
        rw [List.take_add_one, ht]; exact Gd.prod_snoc _ _
      refine ⟨_, as_name, .inl ?_⟩
      show ExD K _ _ (.nx [.fr x, .fr (.int (Gd.prod (ts.take (i + 1))).a), .fr (.int (Gd.prod (ts.take (i + 1))).b), .fr (.int (Gd.prod (ts.take (i + 1))).c), .fr (.int (Gd.prod (ts.take (i + 1))).d), .un])
      rw [e]
      with_reducible apply x_toF (i := 5)
      · walk_at "par"
        walk_at "par"
      · rfl
    · rw [List.length_map]
      walk_at "ret"
      rw [List.take_length]
      exact ⟨rfl, rfl⟩
  exact (B.raw hb .nil).imp fun vs H Q E h => by rw [List.append_nil]; exact h
end
end Gw


set_option Elab.async false
set_option linter.all false
set_option maxRecDepth 100000
set_option maxHeartbeats 4000000
namespace Gw
open PySem PySem.Spec PyProof.Rows L2 DL
local macro_rules | `(tactic| walk_at "bd") => `(tactic| first
  | assumption
  | exact Bd.i0 | exact Bd.i1 | exact Bd.i2 | exact Bd.i4 | exact Bd.m2 | exact Bd.m1
  | ((with_reducible apply BdT.a) <;> assumption) | ((with_reducible apply BdT.b) <;> assumption) | ((with_reducible apply BdT.c) <;> assumption) | ((with_reducible apply BdT.d) <;> assumption)
  | ((with_reducible apply Bd.mul) <;> walk_at "bd")
  | ((with_reducible apply Bd.add) <;> walk_at "bd")
  | ((with_reducible apply Bd.sub) <;> walk_at "bd")
  | ((with_reducible apply Bd.neg) <;> walk_at "bd"))
local macro_rules | `(tactic| walk_at "ev") => `(tactic| first
  | ((with_reducible show ExD _ _ _ _); try dsimp only [List.set])
  | with_reducible exact ev_int | with_reducible exact ev_non | with_reducible exact ev_bl | with_reducible exact ev_str
  | ((with_reducible apply ev_var); exact rfl)
  | with_reducible exact ea_nil
  | ((with_reducible apply ea_cons) <;> walk_at "ev")
  | ((with_reducible apply ev_add) <;> walk_at "ev")
  | ((with_reducible apply ev_sub) <;> walk_at "ev")
  | ((with_reducible apply ev_mul) <;> walk_at "ev")
  | ((with_reducible apply ev_fdiv) <;> walk_at "ev")
  | ((with_reducible apply ev_mod) <;> walk_at "ev")
  | ((with_reducible apply ev_lt) <;> walk_at "ev")
  | ((with_reducible apply ev_le) <;> walk_at "ev")
  | ((with_reducible apply ev_gt) <;> walk_at "ev")
  | ((with_reducible apply ev_ge) <;> walk_at "ev")
  | ((with_reducible apply ev_eqS (tb := tC (V.str _)) (hb := ev_str)) <;> walk_at "ev")
  | ((with_reducible apply ev_neS (tb := tC (V.str _)) (hb := ev_str)) <;> walk_at "ev")
  | ((with_reducible apply ev_eqI) <;> walk_at "ev")
  | ((with_reducible apply ev_neI) <;> walk_at "ev")
  | ((with_reducible apply ev_neg) <;> walk_at "ev")
  | ((with_reducible apply ev_gcd) <;> walk_at "ev")
  | ((with_reducible apply ev_fld) <;> walk_at "ev")
  | ((with_reducible apply et_test) <;> walk_at "ev")
  | ((with_reducible apply et_B) <;> walk_at "ev")
  | ((with_reducible apply et_not) <;> walk_at "ev")
  | ((with_reducible apply ev_tup) <;> walk_at "ev")
  | ((with_reducible apply ev_make') <;> walk_at "ev")
  | ((with_reducible apply ev_call') <;> walk_at "ev")
  | ((with_reducible apply ev_meth') <;> walk_at "ev")
  | ((with_reducible show List.length _ = _); exact rfl)
  | ((with_reducible show List.length _ + 1 = _); exact rfl)
  | ((with_reducible show List.lookup _ _ = _); exact rfl)
  | ((with_reducible apply et_or') <;> walk_at "ev")
  | ((with_reducible apply et_and') <;> walk_at "ev")
  | ((with_reducible apply ev_own2) <;> walk_at "ev")
  | ((with_reducible apply ev_own1) <;> walk_at "ev")
  | ((with_reducible apply ev_st) <;> walk_at "ev")
  | ((with_reducible apply ev_abs) <;> walk_at "ev")
  | ((with_reducible apply ev_max2) <;> walk_at "ev")
  | ((with_reducible apply ev_divmod) <;> walk_at "ev")
  | ((with_reducible apply ev_intI) <;> walk_at "ev")
  | ((with_reducible apply ev_isN) <;> walk_at "ev")
  | ((with_reducible apply ev_notN) <;> walk_at "ev")
  | ((with_reducible apply ev_eqS) <;> walk_at "ev")
  | ((with_reducible apply ev_neS) <;> walk_at "ev")
  | ((with_reducible apply ev_lenO); exact rfl)
  | ((with_reducible apply ev_len) <;> walk_at "ev")
  | ((with_reducible show D.items _ = _); first | assumption | exact rfl)
  | ((with_reducible show rTableI _ _ _); exact ⟨rfl, rfl⟩)
  | ((with_reducible show _ = false); first | rfl | (simp; done) | (simp; omega))
  | ((with_reducible show _ = true); first | rfl | (simp; done) | (simp; omega))
  | ((with_reducible show 2 = _); exact rfl)
  | ((with_reducible show 1 = _); exact rfl)
  | exact Txt.clTable ‹_› | exact Txt.clFrac ‹_› | exact Txt.clRow ‹_› | exact Txt.clRoot ‹_›
  | exact Txt.nTable_a ‹_› | exact Txt.nTable_b ‹_› | exact Txt.nTable_c ‹_› | exact Txt.nTable_d ‹_› | exact Txt.nFrac_top ‹_› | exact Txt.nFrac_bottom ‹_›
  | exact Txt.nRow_head ‹_› | exact Txt.nRow_loop ‹_› | exact Txt.nRow_kind ‹_› | exact Txt.nRoot_a ‹_› | exact Txt.nRoot_b ‹_› | exact Txt.nRoot_c ‹_› | exact Txt.nRoot_disc ‹_›
  | ((with_reducible apply Bd.cm) <;> first | walk_at "bd" | omega)
  | ((with_reducible show _ ≤ _); simp only [List.length_cons, List.length_nil]; omega)
  | ((with_reducible intro _); walk_at "ev")
  | skip)
local macro_rules | `(tactic| walk_at "set") => `(tactic| ((with_reducible apply xs_set) <;> walk_at "ev"))
local macro_rules | `(tactic| walk_at "ret") => `(tactic| ((with_reducible apply x_ret) <;> walk_at "ev"))
local macro_rules | `(tactic| walk_at "as4") => `(tactic| ((with_reducible (first | apply xs_as4 | apply xl_as4)) <;> walk_at "ev"))
local macro_rules | `(tactic| walk_at "as3") => `(tactic| ((with_reducible (first | apply xs_as3 | apply xl_as3)) <;> walk_at "ev"))
local macro_rules | `(tactic| walk_at "as2") => `(tactic| ((with_reducible (first | apply xs_as2 | apply xl_as2)) <;> walk_at "ev"))
local macro_rules | `(tactic| walk_at "par") => `(tactic| ((with_reducible (first | apply xs_par | apply x_par)) <;> walk_at "ev"))
local macro_rules | `(tactic| walk_at "fld") => `(tactic| ((with_reducible (first | apply xs_fld | apply x_fld)) <;> first | exact rfl | decide | walk_at "ev"))
local macro_rules | `(tactic| walk_at "guard") => `(tactic| ((with_reducible apply xs_guard) <;> walk_at "ev"))
local macro_rules | `(tactic| walk_at "skip") => `(tactic| ((with_reducible apply xs_skip) <;> walk_at "ev"))
local macro_rules | `(tactic| walk_at "take") => `(tactic| ((with_reducible apply xs_take) <;> walk_at "ev"))
local macro_rules | `(tactic| walk_at "clean") => `(tactic| try simp only [cxK, cxK', asnL, List.length_cons, List.length_nil, Nat.zero_add, Nat.reduceAdd])
section
variable {P : Program} {w : World} {K : Frag} {mg : Str → Option Value} {base : Heap}
def sign (i : Int) : Int := if i = 0 then 0 else if 0 < i then 1 else -1
inductive rSign : List D → D → Prop
  | mk (i : Int) : rSign [.int i] (.int (sign i))
abbrev N_sign_of : List Str := [("number" : Str)]
theorem sc_sign_of : FnScope N_sign_of [("number" : Str)] (defScope s_sign_of) := ⟨rfl, rfl, rfl, by decide +kernel, rfl, by decide +kernel, by decide +kernel⟩
theorem ok_sign_of {f : Addr} {fd : FuncData} (F : FunD K "sign_of" "sign_of" (defArgs s_sign_of) (defBody s_sign_of) (defScope s_sign_of) [] [] f fd) (hb : Binds K fd [("number" : Str)] []) (T : Txt K mg) : FnR P w K mg base CX0 1 f (spD K 1 rSign) := by
  have B : FnOk P w K mg base CX0 1 f fd [("number" : Str)] (spD K 1 rSign) := by
    refine F.ok sc_sign_of (fun vs H Q E h => h.1) (fun cdv A outer s H vs Q E hr h => ?_)
    have hu := hr.units
    have hu1 : _ + 1 < cLine := Nat.lt_of_le_of_lt (Nat.add_le_add_left (by decide : 1 ≤ 64) _) hr.units
    have nd := sc_sign_of.nd
    refine ⟨_, PSs.nox (pss_cons (ps_if (pt_cmpR op_eq (pv 0) pe_int (nomark _)) (pss_one (ps_ret pe_int)) pss_nil)
      (pss_one (ps_ret (pe_ifExp (pt_cmpR op_gt (pv 0) pe_int (nomark _)) pe_int (pe_un un_neg pe_int))))), enter h (by decide) ?_⟩
    rintro _ _ ⟨i⟩ _
    left
    show ExD K _ [.fr (.int i)] _
    walk_at "clean"
    by_cases h0 : i = 0
    · have e : sign i = 0 := by unfold sign; rw [if_pos h0]
      rw [e]
      walk_at "take"
      walk_at "ret"
    · walk_at "skip"
      with_reducible apply x_ret
      by_cases h1 : 0 < i
      · have e : sign i = 1 := by unfold sign; rw [if_neg h0, if_pos h1]
        rw [e]
        with_reducible apply ev_if (b := true)
        · with_reducible apply et_is
          · walk_at "ev"
          · simp; omega
        · walk_at "ev"
        · intro h; cases h
      · have e : sign i = -1 := by unfold sign; rw [if_neg h0, if_neg h1]
        rw [e]
        with_reducible apply ev_if (b := false)
        · with_reducible apply et_is
          · walk_at "ev"
          · simp; omega
        · intro h; cases h
        · intro _
          exact ev_neg (i := 1) ev_int
  exact (B.raw hb .nil).imp fun vs H Q E h => by rw [List.append_nil]; exact h
def rFracI : List D → List Str → List D → Prop := fun ds ns xs => ∃ t b : Int, ∃ k : Nat, ds = [.int t, .int b] ∧ 0 < b ∧ Bd k b ∧ k < 8000 ∧ ns = nF ∧ xs = [.int (t / (Nat.gcd t.natAbs b.natAbs : Nat)), .int (b / (Nat.gcd t.natAbs b.natAbs : Nat))]
abbrev N_Fracd_initd : List Str := [("self" : Str), ("top" : Str), ("bottom" : Str), ("divisor" : Str)]
theorem sc_Fracd_initd : FnScope N_Fracd_initd [("self" : Str), ("top" : Str), ("bottom" : Str)] (defScope s_Fracd_initd) := ⟨rfl, rfl, rfl, by decide +kernel, rfl, by decide +kernel, by decide +kernel⟩
theorem ok_Fracd_initd {f : Addr} {fd : FuncData} {dvs : List V} (F : FunD K "__init__" "Frac.__init__" (defArgs s_Fracd_initd) (defBody s_Fracd_initd) (defScope s_Fracd_initd) dvs [] f fd) (hb : Binds K fd [("self" : Str), ("top" : Str), ("bottom" : Str)] []) (T : Txt K mg) (h_sign_of : Fn P w K mg base "sign_of" 1 (spD K 1 rSign)) : FnR P w K mg base CX0 2 f (spI K (cFrac K) 2 rFracI) := by
  have B : FnOk P w K mg base CX0 2 f fd [("self" : Str), ("top" : Str), ("bottom" : Str)] (spI K (cFrac K) 2 rFracI) := by
    refine F.ok sc_Fracd_initd (fun vs H Q E h => h.1) (fun cdv A outer s H vs Q E hr h => ?_)
    have hr1 : Room 1 _ := hr.mono (by decide)
    have hu := hr.units
    have hu1 : _ + 1 < cLine := Nat.lt_of_le_of_lt (Nat.add_le_add_left (by decide : 1 ≤ 64) _) hr.units
    have nd := sc_Fracd_initd.nd
    refine ⟨_, PSs.nox (pss_cons (ps_if (pt_cmpR op_eq (pv 2) pe_int (nomark _)) pss_never pss_nil)
      (pss_cons (ps_set (i := 3) nd rfl (Or.inl rfl) (pe_op op_mulW (pe_callBfun cr_gcd (by rfl) T.f_gcd (pa_cons (pv 1) (pa_cons (pv 2) pa_nil))) (pe_fn h_sign_of hr1 rfl (pa_cons (pv 2) pa_nil))))
      (pss_cons (ps_fld (pv 0) (pe_op op_fdivW (pv 1) (pv 3)) rfl)
      (pss_one (ps_fld (pv 0) (pe_op op_fdivW (pv 2) (pv 3)) rfl))))), enterI h (by decide) ?_⟩
    rintro _ _ _ ⟨t, b, k, rfl, h0, hk, hk2, rfl, rfl⟩ _ x
    have hg : 0 < Nat.gcd t.natAbs b.natAbs := Nat.gcd_pos_of_pos_right _ (by omega)
    have hgl : Nat.gcd t.natAbs b.natAbs ≤ b.natAbs := Nat.gcd_le_right _ (by omega)
    generalize hgg : Nat.gcd t.natAbs b.natAbs = g at *
    have hgb : Bd k (g : Int) := by unfold Bd at *; omega
    have hcd : CDivW t (g : Int) := Bd.cd hgb (by omega) (by omega)
    have hcd' : CDivW b (g : Int) := Bd.cd hgb (by omega) (by omega)
    have hs : sign b = 1 := by unfold sign; rw [if_neg (by omega), if_pos h0]
    refine ⟨[.oi x (cFrac K) nF [.int (t / (g : Int)), .int (b / (g : Int))], .fr (.int t), .fr (.int b), .fr (.int g)], rfl, ?_⟩
    · show ExD K _ [.oi x (cFrac K) [] [], .fr (.int t), .fr (.int b), .un] _
      walk_at "clean"
      walk_at "guard"
      with_reducible apply xs_set
      with_reducible apply ev_mul
      · walk_at "ev"
      · walk_at "ev"
        exact .mk _
      · rw [hs, hgg]
        walk_at "ev"
      · rw [hs, hgg, Int.mul_one]
        dsimp only [List.set]
        with_reducible apply xs_fld
        · walk_at "ev"
          exact hcd
        · rfl
        · exact T.clFrac
        · exact T.nFrac_top
        · decide
        · decide
        · dsimp only [List.set]
          with_reducible apply x_to
          · with_reducible apply x_fld
            · walk_at "ev"
              exact hcd'
            · rfl
            · exact T.clFrac
            · exact T.nFrac_bottom
            · decide
            · decide
          · rfl
  exact (B.raw hb .nil).imp fun vs H Q E h => by rw [List.append_nil]; exact h
inductive rTMul (K : Frag) : List D → D → Prop
  | mk (x y : Gd.Tb) (k l : Nat) (hx : BdT k x) (hy : BdT l y) (e : k + l < 900000) : rTMul K [dT K x, dT K y] (dT K (x.mul y))
abbrev N_Tabled_muld : List Str := [("self" : Str), ("other" : Str)]
theorem sc_Tabled_muld : FnScope N_Tabled_muld [("self" : Str), ("other" : Str)] (defScope s_Tabled_muld) := ⟨rfl, rfl, rfl, by decide +kernel, rfl, by decide +kernel, by decide +kernel⟩
theorem ok_Tabled_muld {f : Addr} {fd : FuncData} (F : FunD K "__mul__" "Table.__mul__" (defArgs s_Tabled_muld) (defBody s_Tabled_muld) (defScope s_Tabled_muld) [] [] f fd) (hb : Binds K fd [("self" : Str), ("other" : Str)] []) (T : Txt K mg) (h_Tabled_initd : Mkr P w K mg base "Table" (cTable K) 1 (spI K (cTable K) 4 rTableI)) : FnR P w K mg base CX0 3 f (spD K 2 (rTMul K)) := by
  have B : FnOk P w K mg base CX0 3 f fd [("self" : Str), ("other" : Str)] (spD K 2 (rTMul K)) := by
    refine F.ok sc_Tabled_muld (fun vs H Q E h => h.1) (fun cdv A outer s H vs Q E hr h => ?_)
    have hr1 : Room 1 _ := hr.mono (by decide)
    have hr2 : Room 2 _ := hr.mono (by decide)
    have hu := hr.units
    have hu1 : _ + 1 < cLine := Nat.lt_of_le_of_lt (Nat.add_le_add_left (by decide : 1 ≤ 64) _) hr.units
    have nd := sc_Tabled_muld.nd
    refine ⟨_, PSs.nox (pss_one (ps_ret (pe_mkr h_Tabled_initd hr2 rfl (pa_cons (pe_op op_add (pe_op op_mulW (pe_fld (pv 0) rfl) (pe_fld (pv 1) rfl)) (pe_op op_mulW (pe_fld (pv 0) rfl) (pe_fld (pv 1) rfl))) (pa_cons (pe_op op_add (pe_op op_mulW (pe_fld (pv 0) rfl) (pe_fld (pv 1) rfl)) (pe_op op_mulW (pe_fld (pv 0) rfl) (pe_fld (pv 1) rfl))) (pa_cons (pe_op op_add (pe_op op_mulW (pe_fld (pv 0) rfl) (pe_fld (pv 1) rfl)) (pe_op op_mulW (pe_fld (pv 0) rfl) (pe_fld (pv 1) rfl))) (pa_cons (pe_op op_add (pe_op op_mulW (pe_fld (pv 0) rfl) (pe_fld (pv 1) rfl)) (pe_op op_mulW (pe_fld (pv 0) rfl) (pe_fld (pv 1) rfl))) pa_nil))))))), enter h (by decide) ?_⟩
    rintro _ _ ⟨x, y, k, l, hx, hy, e⟩ _
    left
    show ExD K _ [.fr (dT K x), .fr (dT K y)] _
    walk_at "clean"
    walk_at "ret"
  exact (B.raw hb .nil).imp fun vs H Q E h => by rw [List.append_nil]; exact h
inductive rTNeg (K : Frag) : List D → D → Prop
  | mk (x : Gd.Tb) : rTNeg K [dT K x] (dT K x.neg)
abbrev N_Tabled_negd : List Str := [("self" : Str)]
theorem sc_Tabled_negd : FnScope N_Tabled_negd [("self" : Str)] (defScope s_Tabled_negd) := ⟨rfl, rfl, rfl, by decide +kernel, rfl, by decide +kernel, by decide +kernel⟩
theorem ok_Tabled_negd {f : Addr} {fd : FuncData} (F : FunD K "__neg__" "Table.__neg__" (defArgs s_Tabled_negd) (defBody s_Tabled_negd) (defScope s_Tabled_negd) [] [] f fd) (hb : Binds K fd [("self" : Str)] []) (T : Txt K mg) (h_Tabled_initd : Mkr P w K mg base "Table" (cTable K) 1 (spI K (cTable K) 4 rTableI)) : FnR P w K mg base CX0 3 f (spD K 1 (rTNeg K)) := by
  have B : FnOk P w K mg base CX0 3 f fd [("self" : Str)] (spD K 1 (rTNeg K)) := by
    refine F.ok sc_Tabled_negd (fun vs H Q E h => h.1) (fun cdv A outer s H vs Q E hr h => ?_)
    have hr1 : Room 1 _ := hr.mono (by decide)
    have hr2 : Room 2 _ := hr.mono (by decide)
    have hu := hr.units
    have hu1 : _ + 1 < cLine := Nat.lt_of_le_of_lt (Nat.add_le_add_left (by decide : 1 ≤ 64) _) hr.units
    have nd := sc_Tabled_negd.nd
    refine ⟨_, PSs.nox (pss_one (ps_ret (pe_mkr h_Tabled_initd hr2 rfl (pa_cons (pe_un un_neg (pe_fld (pv 0) rfl)) (pa_cons (pe_un un_neg (pe_fld (pv 0) rfl)) (pa_cons (pe_un un_neg (pe_fld (pv 0) rfl)) (pa_cons (pe_un un_neg (pe_fld (pv 0) rfl)) pa_nil))))))), enter h (by decide) ?_⟩
    rintro _ _ ⟨x⟩ _
    left
    show ExD K _ [.fr (dT K x)] _
    walk_at "clean"
    walk_at "ret"
  exact (B.raw hb .nil).imp fun vs H Q E h => by rw [List.append_nil]; exact h
inductive rTDet (K : Frag) : List D → D → Prop
  | mk (x : Gd.Tb) (k : Nat) (hx : BdT k x) (e : k < 400000) : rTDet K [dT K x] (.int x.det)
abbrev N_Table_det : List Str := [("self" : Str)]
theorem sc_Table_det : FnScope N_Table_det [("self" : Str)] (defScope s_Table_det) := ⟨rfl, rfl, rfl, by decide +kernel, rfl, by decide +kernel, by decide +kernel⟩
theorem ok_Table_det {f : Addr} {fd : FuncData} (F : FunD K "det" "Table.det" (defArgs s_Table_det) (defBody s_Table_det) (defScope s_Table_det) [] [] f fd) (hb : Binds K fd [("self" : Str)] []) (T : Txt K mg) : FnR P w K mg base CX0 1 f (spD K 1 (rTDet K)) := by
  have B : FnOk P w K mg base CX0 1 f fd [("self" : Str)] (spD K 1 (rTDet K)) := by
    refine F.ok sc_Table_det (fun vs H Q E h => h.1) (fun cdv A outer s H vs Q E hr h => ?_)
    have hu := hr.units
    have hu1 : _ + 1 < cLine := Nat.lt_of_le_of_lt (Nat.add_le_add_left (by decide : 1 ≤ 64) _) hr.units
    have nd := sc_Table_det.nd
    refine ⟨_, PSs.nox (pss_one (ps_ret (pe_op op_sub (pe_op op_mulW (pe_fld (pv 0) rfl) (pe_fld (pv 0) rfl)) (pe_op op_mulW (pe_fld (pv 0) rfl) (pe_fld (pv 0) rfl))))), enter h (by decide) ?_⟩
    rintro _ _ ⟨x, k, hx, e⟩ _
    left
    show ExD K _ [.fr (dT K x)] _
    walk_at "clean"
    unfold Gd.Tb.det
    walk_at "ret"
  exact (B.raw hb .nil).imp fun vs H Q E h => by rw [List.append_nil]; exact h
inductive rTTrace (K : Frag) : List D → D → Prop
  | mk (x : Gd.Tb) : rTTrace K [dT K x] (.int x.trace)
abbrev N_Table_trace : List Str := [("self" : Str)]
theorem sc_Table_trace : FnScope N_Table_trace [("self" : Str)] (defScope s_Table_trace) := ⟨rfl, rfl, rfl, by decide +kernel, rfl, by decide +kernel, by decide +kernel⟩
theorem ok_Table_trace {f : Addr} {fd : FuncData} (F : FunD K "trace" "Table.trace" (defArgs s_Table_trace) (defBody s_Table_trace) (defScope s_Table_trace) [] [] f fd) (hb : Binds K fd [("self" : Str)] []) (T : Txt K mg) : FnR P w K mg base CX0 1 f (spD K 1 (rTTrace K)) := by
  have B : FnOk P w K mg base CX0 1 f fd [("self" : Str)] (spD K 1 (rTTrace K)) := by
    refine F.ok sc_Table_trace (fun vs H Q E h => h.1) (fun cdv A outer s H vs Q E hr h => ?_)
    have hu := hr.units
    have hu1 : _ + 1 < cLine := Nat.lt_of_le_of_lt (Nat.add_le_add_left (by decide : 1 ≤ 64) _) hr.units
    have nd := sc_Table_trace.nd
    refine ⟨_, PSs.nox (pss_one (ps_ret (pe_op op_add (pe_fld (pv 0) rfl) (pe_fld (pv 0) rfl)))), enter h (by decide) ?_⟩
    rintro _ _ ⟨x⟩ _
    left
    show ExD K _ [.fr (dT K x)] _
    walk_at "clean"
    unfold Gd.Tb.trace
    walk_at "ret"
  exact (B.raw hb .nil).imp fun vs H Q E h => by rw [List.append_nil]; exact h
inductive rTAdj (K : Frag) : List D → D → Prop
  | mk (x : Gd.Tb) : rTAdj K [dT K x] (dT K x.adj)
abbrev N_Table_adjugate : List Str := [("self" : Str)]
theorem sc_Table_adjugate : FnScope N_Table_adjugate [("self" : Str)] (defScope s_Table_adjugate) := ⟨rfl, rfl, rfl, by decide +kernel, rfl, by decide +kernel, by decide +kernel⟩
theorem ok_Table_adjugate {f : Addr} {fd : FuncData} (F : FunD K "adjugate" "Table.adjugate" (defArgs s_Table_adjugate) (defBody s_Table_adjugate) (defScope s_Table_adjugate) [] [] f fd) (hb : Binds K fd [("self" : Str)] []) (T : Txt K mg) (h_Tabled_initd : Mkr P w K mg base "Table" (cTable K) 1 (spI K (cTable K) 4 rTableI)) : FnR P w K mg base CX0 3 f (spD K 1 (rTAdj K)) := by
  have B : FnOk P w K mg base CX0 3 f fd [("self" : Str)] (spD K 1 (rTAdj K)) := by
    refine F.ok sc_Table_adjugate (fun vs H Q E h => h.1) (fun cdv A outer s H vs Q E hr h => ?_)
    have hr1 : Room 1 _ := hr.mono (by decide)
    have hr2 : Room 2 _ := hr.mono (by decide)
    have hu := hr.units
    have hu1 : _ + 1 < cLine := Nat.lt_of_le_of_lt (Nat.add_le_add_left (by decide : 1 ≤ 64) _) hr.units
    have nd := sc_Table_adjugate.nd
    refine ⟨_, PSs.nox (pss_one (ps_ret (pe_mkr h_Tabled_initd hr2 rfl (pa_cons (pe_fld (pv 0) rfl) (pa_cons (pe_un un_neg (pe_fld (pv 0) rfl)) (pa_cons (pe_un un_neg (pe_fld (pv 0) rfl)) (pa_cons (pe_fld (pv 0) rfl) pa_nil))))))), enter h (by decide) ?_⟩
    rintro _ _ ⟨x⟩ _
    left
    show ExD K _ [.fr (dT K x)] _
    walk_at "clean"
    walk_at "ret"
  exact (B.raw hb .nil).imp fun vs H Q E h => by rw [List.append_nil]; exact h
inductive rTInv (K : Frag) : List D → D → Prop
  | mk (x : Gd.Tb) (k : Nat) (hx : BdT k x) (e : k < 400000) (hd : x.det = 1 ∨ x.det = -1) : rTInv K [dT K x] (dT K x.inv)
abbrev N_Table_inverse : List Str := [("self" : Str), ("det" : Str)]
theorem sc_Table_inverse : FnScope N_Table_inverse [("self" : Str)] (defScope s_Table_inverse) := ⟨rfl, rfl, rfl, by decide +kernel, rfl, by decide +kernel, by decide +kernel⟩
theorem ok_Table_inverse {f : Addr} {fd : FuncData} (F : FunD K "inverse" "Table.inverse" (defArgs s_Table_inverse) (defBody s_Table_inverse) (defScope s_Table_inverse) [] [] f fd) (hb : Binds K fd [("self" : Str)] []) (T : Txt K mg) (h_Table_det : Me P w K mg base (cTable K) "det" 1 (spD K 1 (rTDet K))) (h_Table_adjugate : Me P w K mg base (cTable K) "adjugate" 3 (spD K 1 (rTAdj K))) (h_Tabled_negd : Op1 P w K mg base (cTable K) 3 (spD K 1 (rTNeg K))) : FnR P w K mg base CX0 4 f (spD K 1 (rTInv K)) := by
  have B : FnOk P w K mg base CX0 4 f fd [("self" : Str)] (spD K 1 (rTInv K)) := by
    refine F.ok sc_Table_inverse (fun vs H Q E h => h.1) (fun cdv A outer s H vs Q E hr h => ?_)
    have hr1 : Room 1 _ := hr.mono (by decide)
    have hr3 : Room 3 _ := hr.mono (by decide)
    have hu := hr.units
    have hu1 : _ + 1 < cLine := Nat.lt_of_le_of_lt (Nat.add_le_add_left (by decide : 1 ≤ 64) _) hr.units
    have nd := sc_Table_inverse.nd
    refine ⟨_, PSs.nox (pss_cons (ps_set (i := 1) nd rfl (Or.inl rfl) (pe_me0 h_Table_det hr1 T.clTable (pv 0)))
      (pss_cons (ps_if (pt_cmpR op_eq (pv 1) pe_int (nomark _)) (pss_one (ps_ret (pe_me0 h_Table_adjugate hr3 T.clTable (pv 0)))) pss_nil)
      (pss_cons (ps_if (pt_cmpR op_eq (pv 1) (pe_un un_neg pe_int) (nomark _)) (pss_one (ps_ret (pe_un (un_op1 h_Tabled_negd hr3) (pe_me0 h_Table_adjugate hr3 T.clTable (pv 0))))) pss_nil)
      (pss_one ps_never)))), enter h (by decide) ?_⟩
    rintro _ _ ⟨x, k, hx, e, hd⟩ _
    left
    show ExD K _ [.fr (dT K x), .un] _
    walk_at "clean"
    have hdet : rTDet K [dT K x] (.int x.det) := .mk x k hx e
    with_reducible apply xs_set
    · walk_at "ev"
      exact hdet
    · dsimp only [List.set]
      rcases hd with h | h
      · have e1 : x.inv = x.adj := by unfold Gd.Tb.inv; rw [if_pos h]
        rw [e1]
        walk_at "take"
        with_reducible apply x_ret
        walk_at "ev"
        exact .mk _
      · have e1 : x.inv = x.adj.neg := by unfold Gd.Tb.inv; rw [if_neg (by omega)]
        rw [e1]
        walk_at "skip"
        with_reducible apply x_seq_rt
        with_reducible apply x_if_t
        · with_reducible apply et_is
          · walk_at "ev"
          · simp; omega
        · with_reducible apply x_ret
          with_reducible apply ev_own1
          · walk_at "ev"
            exact .mk _
          · rfl
          · exact .mk _
  exact (B.raw hb .nil).imp fun vs H Q E h => by rw [List.append_nil]; exact h
inductive rTUnit (K : Frag) : List D → D → Prop
  | mk : rTUnit K [] (dT K Gd.Tb.one)
abbrev N_Table_unit : List Str := []
theorem sc_Table_unit : FnScope N_Table_unit [] (defScope s_Table_unit) := ⟨rfl, rfl, rfl, by decide +kernel, rfl, by decide +kernel, by decide +kernel⟩
theorem ok_Table_unit {f : Addr} {fd : FuncData} (F : FunD K "unit" "Table.unit" (defArgs s_Table_unit) (defBody s_Table_unit) (defScope s_Table_unit) [] [] f fd) (hb : Binds K fd [] []) (T : Txt K mg) (h_Tabled_initd : Mkr P w K mg base "Table" (cTable K) 1 (spI K (cTable K) 4 rTableI)) : FnR P w K mg base CX0 3 f (spD K 0 (rTUnit K)) := by
  have B : FnOk P w K mg base CX0 3 f fd [] (spD K 0 (rTUnit K)) := by
    refine F.ok sc_Table_unit (fun vs H Q E h => h.1) (fun cdv A outer s H vs Q E hr h => ?_)
    have hr1 : Room 1 _ := hr.mono (by decide)
    have hr2 : Room 2 _ := hr.mono (by decide)
    have hu := hr.units
    have hu1 : _ + 1 < cLine := Nat.lt_of_le_of_lt (Nat.add_le_add_left (by decide : 1 ≤ 64) _) hr.units
    have nd := sc_Table_unit.nd
    refine ⟨_, PSs.nox (pss_one (ps_ret (pe_mkr h_Tabled_initd hr2 rfl (pa_cons pe_int (pa_cons pe_int (pa_cons pe_int (pa_cons pe_int pa_nil))))))), enter h (by decide) ?_⟩
    rintro _ _ ⟨⟩ _
    left
    show ExD K _ [] _
    walk_at "clean"
    walk_at "ret"
  exact (B.raw hb .nil).imp fun vs H Q E h => by rw [List.append_nil]; exact h
end
end Gw


set_option Elab.async false
set_option linter.all false
set_option maxRecDepth 100000
set_option maxHeartbeats 4000000
namespace Gw
open PySem PySem.Spec PyProof.Rows L2 DL
local macro_rules | `(tactic| walk_at "bd") => `(tactic| first
  | assumption
  | exact Bd.i0 | exact Bd.i1 | exact Bd.i2 | exact Bd.i4 | exact Bd.m2 | exact Bd.m1
  | ((with_reducible apply BdT.a) <;> assumption) | ((with_reducible apply BdT.b) <;> assumption) | ((with_reducible apply BdT.c) <;> assumption) | ((with_reducible apply BdT.d) <;> assumption)
  | ((with_reducible apply Bd.mul) <;> walk_at "bd")
  | ((with_reducible apply Bd.add) <;> walk_at "bd")
  | ((with_reducible apply Bd.sub) <;> walk_at "bd")
  | ((with_reducible apply Bd.neg) <;> walk_at "bd"))
local macro_rules | `(tactic| walk_at "ev") => `(tactic| first
  | ((with_reducible show ExD _ _ _ _); try dsimp only [List.set])
  | with_reducible exact ev_int | with_reducible exact ev_non | with_reducible exact ev_bl | with_reducible exact ev_str
  | ((with_reducible apply ev_var); exact rfl)
  | with_reducible exact ea_nil
  | ((with_reducible apply ea_cons) <;> walk_at "ev")
  | ((with_reducible apply ev_add) <;> walk_at "ev")
  | ((with_reducible apply ev_sub) <;> walk_at "ev")
  | ((with_reducible apply ev_mul) <;> walk_at "ev")
  | ((with_reducible apply ev_fdiv) <;> walk_at "ev")
  | ((with_reducible apply ev_mod) <;> walk_at "ev")
  | ((with_reducible apply ev_lt) <;> walk_at "ev")
  | ((with_reducible apply ev_le) <;> walk_at "ev")
  | ((with_reducible apply ev_gt) <;> walk_at "ev")
  | ((with_reducible apply ev_ge) <;> walk_at "ev")
  | ((with_reducible apply ev_eqS (tb := tC (V.str _)) (hb := ev_str)) <;> walk_at "ev")
  | ((with_reducible apply ev_neS (tb := tC (V.str _)) (hb := ev_str)) <;> walk_at "ev")
  | ((with_reducible apply ev_eqI) <;> walk_at "ev")
  | ((with_reducible apply ev_neI) <;> walk_at "ev")
  | ((with_reducible apply ev_neg) <;> walk_at "ev")
  | ((with_reducible apply ev_gcd) <;> walk_at "ev")
  | ((with_reducible apply ev_fld) <;> walk_at "ev")
  | ((with_reducible apply et_test) <;> walk_at "ev")
  | ((with_reducible apply et_B) <;> walk_at "ev")
  | ((with_reducible apply et_not) <;> walk_at "ev")
  | ((with_reducible apply ev_tup) <;> walk_at "ev")
  | ((with_reducible apply ev_make') <;> walk_at "ev")
  | ((with_reducible apply ev_call') <;> walk_at "ev")
  | ((with_reducible apply ev_meth') <;> walk_at "ev")
  | ((with_reducible show List.length _ = _); exact rfl)
  | ((with_reducible show List.length _ + 1 = _); exact rfl)
  | ((with_reducible show List.lookup _ _ = _); exact rfl)
  | ((with_reducible apply et_or') <;> walk_at "ev")
  | ((with_reducible apply et_and') <;> walk_at "ev")
  | ((with_reducible apply ev_own2) <;> walk_at "ev")
  | ((with_reducible apply ev_own1) <;> walk_at "ev")
  | ((with_reducible apply ev_st) <;> walk_at "ev")
  | ((with_reducible apply ev_abs) <;> walk_at "ev")
  | ((with_reducible apply ev_max2) <;> walk_at "ev")
  | ((with_reducible apply ev_divmod) <;> walk_at "ev")
  | ((with_reducible apply ev_intI) <;> walk_at "ev")
  | ((with_reducible apply ev_isN) <;> walk_at "ev")
  | ((with_reducible apply ev_notN) <;> walk_at "ev")
  | ((with_reducible apply ev_eqS) <;> walk_at "ev")
  | ((with_reducible apply ev_neS) <;> walk_at "ev")
  | ((with_reducible apply ev_lenO); exact rfl)
  | ((with_reducible apply ev_len) <;> walk_at "ev")
  | ((with_reducible show D.items _ = _); first | assumption | exact rfl)
  | ((with_reducible show rTableI _ _ _); exact ⟨rfl, rfl⟩)
  | ((with_reducible show _ = false); first | rfl | (simp; done) | (simp; omega))
  | ((with_reducible show _ = true); first | rfl | (simp; done) | (simp; omega))
  | ((with_reducible show 2 = _); exact rfl)
  | ((with_reducible show 1 = _); exact rfl)
  | exact Txt.clTable ‹_› | exact Txt.clFrac ‹_› | exact Txt.clRow ‹_› | exact Txt.clRoot ‹_›
  | exact Txt.nTable_a ‹_› | exact Txt.nTable_b ‹_› | exact Txt.nTable_c ‹_› | exact Txt.nTable_d ‹_› | exact Txt.nFrac_top ‹_› | exact Txt.nFrac_bottom ‹_›
  | exact Txt.nRow_head ‹_› | exact Txt.nRow_loop ‹_› | exact Txt.nRow_kind ‹_› | exact Txt.nRoot_a ‹_› | exact Txt.nRoot_b ‹_› | exact Txt.nRoot_c ‹_› | exact Txt.nRoot_disc ‹_›
  | ((with_reducible apply Bd.cm) <;> first | walk_at "bd" | omega)
  | ((with_reducible show _ ≤ _); simp only [List.length_cons, List.length_nil]; omega)
  | ((with_reducible intro _); walk_at "ev")
  | skip)
local macro_rules | `(tactic| walk_at "set") => `(tactic| ((with_reducible apply xs_set) <;> walk_at "ev"))
local macro_rules | `(tactic| walk_at "ret") => `(tactic| ((with_reducible apply x_ret) <;> walk_at "ev"))
local macro_rules | `(tactic| walk_at "as4") => `(tactic| ((with_reducible (first | apply xs_as4 | apply xl_as4)) <;> walk_at "ev"))
local macro_rules | `(tactic| walk_at "as3") => `(tactic| ((with_reducible (first | apply xs_as3 | apply xl_as3)) <;> walk_at "ev"))
local macro_rules | `(tactic| walk_at "as2") => `(tactic| ((with_reducible (first | apply xs_as2 | apply xl_as2)) <;> walk_at "ev"))
local macro_rules | `(tactic| walk_at "par") => `(tactic| ((with_reducible (first | apply xs_par | apply x_par)) <;> walk_at "ev"))
local macro_rules | `(tactic| walk_at "fld") => `(tactic| ((with_reducible (first | apply xs_fld | apply x_fld)) <;> first | exact rfl | decide | walk_at "ev"))
local macro_rules | `(tactic| walk_at "guard") => `(tactic| ((with_reducible apply xs_guard) <;> walk_at "ev"))
local macro_rules | `(tactic| walk_at "skip") => `(tactic| ((with_reducible apply xs_skip) <;> walk_at "ev"))
local macro_rules | `(tactic| walk_at "take") => `(tactic| ((with_reducible apply xs_take) <;> walk_at "ev"))
local macro_rules | `(tactic| walk_at "clean") => `(tactic| try simp only [cxK, cxK', asnL, List.length_cons, List.length_nil, Nat.zero_add, Nat.reduceAdd])
section
variable {P : Program} {w : World} {K : Frag} {mg : Str → Option Value} {base : Heap}
theorem rt_get {r : List Int} (h : r ≠ []) (c : Int) : r[(c % (r.length : Int)).toNat]? = some (Gd.rt r c) := by
  have hl : 0 < r.length := List.length_pos_iff.mpr h
  have h1 : 0 ≤ c % (r.length : Int) := Int.emod_nonneg _ (by omega)
  have h2 : c % (r.length : Int) < r.length := Int.emod_lt_of_pos _ (by omega)
  have h3 : (c % (r.length : Int)).toNat < r.length := by omega
  unfold Gd.rt
  rw [List.getD_eq_getElem?_getD, List.getElem?_eq_getElem h3]; rfl
theorem dP_at {r : List Int} (h : r ≠ []) (c : Int) : atI (dP r) (c % (r.length : Int)) = some (dPr (Gd.rt r c)) := by
  have hl : 0 < r.length := List.length_pos_iff.mpr h
  have h1 : 0 ≤ c % (r.length : Int) := Int.emod_nonneg _ (by omega)
  have e : c % (r.length : Int) = (((c % (r.length : Int)).toNat : Nat) : Int) := by omega
  rw [e]
  apply atI_nat
  rw [List.getElem?_map, rt_get h]; rfl
inductive rTRaised (K : Frag) : List D → D → Prop
  | mk (x : Gd.Tb) (k : Nat) (hx : BdT k x) (e : k < 100000) : rTRaised K [dT K x, .int 2] (dT K (x.mul x))
abbrev N_Table_raised : List Str := [("self" : Str), ("n" : Str), ("factor" : Str), ("power" : Str), ("bit" : Str)]
theorem sc_Table_raised : FnScope N_Table_raised [("self" : Str), ("n" : Str)] (defScope s_Table_raised) := ⟨rfl, rfl, rfl, by decide +kernel, rfl, by decide +kernel, by decide +kernel⟩
theorem ok_Table_raised {f : Addr} {fd : FuncData} (F : FunD K "raised" "Table.raised" (defArgs s_Table_raised) (defBody s_Table_raised) (defScope s_Table_raised) [] [] f fd) (hb : Binds K fd [("self" : Str), ("n" : Str)] []) (T : Txt K mg) (h_Table_inverse : Me P w K mg base (cTable K) "inverse" 4 (spD K 1 (rTInv K))) (h_Table_unit : Sm P w K mg base (cTable K) "unit" 3 (spD K 0 (rTUnit K))) (h_Tabled_muld : Op2 P w K mg base (cTable K) .Mult 3 (spD K 2 (rTMul K))) : FnR P w K mg base CX0 5 f (spD K 2 (rTRaised K)) := by
  obtain ⟨tk_MOST_EXPONENT_table, hg_MOST_EXPONENT_table⟩ := T.g_MOST_EXPONENT_table
  have B : FnOk P w K mg base CX0 5 f fd [("self" : Str), ("n" : Str)] (spD K 2 (rTRaised K)) := by
    refine F.ok sc_Table_raised (fun vs H Q E h => h.1) (fun cdv A outer s H vs Q E hr h => ?_)
    have hr3 : Room 3 _ := hr.mono (by decide)
    have hr4 : Room 4 _ := hr.mono (by decide)
    have hu := hr.units
    have hu1 : _ + 1 < cLine := Nat.lt_of_le_of_lt (Nat.add_le_add_left (by decide : 1 ≤ 64) _) hr.units
    have nd := sc_Table_raised.nd
    refine ⟨_, PSs.nox (pss_cons (ps_if (PW.pt (pw_or (pt_cmpR op_lt (pv 1) (pe_un un_neg (pe_glob (v := .int 1000) rfl hg_MOST_EXPONENT_table ⟨_, rfl⟩)) (nomark _)) (pw_or1 (pt_cmpR op_gt (pv 1) (pe_glob (v := .int 1000) rfl hg_MOST_EXPONENT_table ⟨_, rfl⟩) (nomark _))))) pss_never pss_nil)
      (pss_cons (ps_set (i := 2) nd rfl (Or.inl rfl) (pe_ifExp (pt_cmpR op_lt (pv 1) pe_int (nomark _)) (pe_me0 h_Table_inverse hr4 T.clTable (pv 0)) (pv 0)))
      (pss_cons (ps_set (i := 3) nd rfl (Or.inl rfl) (pe_sm0 h_Table_unit hr3 (pe_glob (v := .ref (cTable K)) rfl (T.mgTable) rfl)))
      (pss_cons (ps_for PassesOwn.never rfl (pi_str (pe_joined1 (pe_fmtB (pe_callB call_abs (by rfl) T.b_abs (by decide +kernel) (pa_cons (pv 1) pa_nil))))) (pg_name (i := 4) nd rfl (Or.inl rfl)) (pss_cons (ps_set (i := 3) nd rfl (Or.inl rfl) (pe_op (op_op2 h_Tabled_muld hr3) (pv 3) (pv 3)))
        (pss_one (ps_if (pt_cmpR op_eq (pv 4) pe_str (nomark _)) (pss_one (ps_set (i := 3) nd rfl (Or.inl rfl) (pe_op (op_op2 h_Tabled_muld hr3) (pv 3) (pv 2)))) pss_nil))))
      (pss_one (ps_ret (pv 3))))))), enter h (by decide) ?_⟩
    rintro _ _ ⟨x, k, hx, e⟩ _
    left
    show ExD K _ [.fr (dT K x), .fr (.int 2), .un, .un, .un] _
    walk_at "clean"
    have h1 : BdT 1 Gd.Tb.one := BdT.one
    have r1 : rTMul K [dT K Gd.Tb.one, dT K Gd.Tb.one] (dT K Gd.Tb.one) := by
      have := rTMul.mk (K := K) Gd.Tb.one Gd.Tb.one 1 1 h1 h1 (by omega)
      rwa [Gd.Tb.one_mul] at this
    have r2 : rTMul K [dT K Gd.Tb.one, dT K x] (dT K x) := by
      have := rTMul.mk (K := K) Gd.Tb.one x 1 k h1 hx (by omega)
      rwa [Gd.Tb.one_mul] at this
    have r3 : rTMul K [dT K x, dT K x] (dT K (x.mul x)) := .mk x x k k hx hx (by omega)
    with_reducible apply xs_guard (b := false)
    · with_reducible apply et_is
      · with_reducible apply et_or'
        · with_reducible apply et_test
          with_reducible apply ev_lt
          · walk_at "ev"
          · exact ev_neg (i := 1000) ev_int
        · intro _
          walk_at "ev"
      · rfl
    · rfl
    · with_reducible apply xs_set (d := dT K x)
      · with_reducible apply ev_if (b := false)
        · with_reducible apply et_is
          · walk_at "ev"
          · rfl
        · intro h; cases h
        · intro _
          walk_at "ev"
      · dsimp only [List.set]
        with_reducible apply xs_set (d := dT K Gd.Tb.one)
        · walk_at "ev"
          exact .mk
        · dsimp only [List.set]
          refine x_seq (x_for (ds := [D.str ("1" : Str), D.str ("0" : Str)]) (Δ0 := [.fr (dT K x), .fr (.int 2), .fr (dT K x), .fr (dT K Gd.Tb.one), .un]) ?_ (fun i => match i with
            | 0 => [.fr (dT K x), .fr (.int 2), .fr (dT K x), .fr (dT K Gd.Tb.one), .un]
            | 1 => [.fr (dT K x), .fr (.int 2), .fr (dT K x), .fr (dT K x), .un]
            | _ => [.fr (dT K x), .fr (.int 2), .fr (dT K x), .fr (dT K (x.mul x)), .un]) rfl ?_) ?_
          · exact ei_str (z := ("10" : Str)) (ev_fmtB (i := 2) (ev_abs (i := 2) (ev_var rfl)) bin2)
          · intro i d hi hd
            match i, hi with
            | 0, _ =>
              cases hd
              refine ⟨_, as_name, .inl ?_⟩
              with_reducible apply x_toF (i := 4)
              · show ExD K _ [.fr (dT K x), .fr (.int 2), .fr (dT K x), .fr (dT K Gd.Tb.one), .fr (.str ("1" : Str))] _
                with_reducible apply xs_set (d := dT K Gd.Tb.one)
                · with_reducible apply ev_own2
                  · walk_at "ev"
                  · walk_at "ev"
                  · rfl
                  · exact r1
                · dsimp only [List.set]
                  with_reducible apply x_if_t
                  · with_reducible apply et_is
                    · walk_at "ev"
                    · rfl
                  · with_reducible apply x_set (d := dT K x)
                    with_reducible apply ev_own2
                    · walk_at "ev"
                    · walk_at "ev"
                    · rfl
                    · exact r2
              · rfl
            | 1, _ =>
              cases hd
              refine ⟨_, as_name, .inl ?_⟩
              with_reducible apply x_toF (i := 4)
              · show ExD K _ [.fr (dT K x), .fr (.int 2), .fr (dT K x), .fr (dT K x), .fr (.str ("0" : Str))] _
                with_reducible apply xs_set (d := dT K (x.mul x))
                · with_reducible apply ev_own2
                  · walk_at "ev"
                  · walk_at "ev"
                  · rfl
                  · exact r3
                · dsimp only [List.set]
                  with_reducible apply x_if_f
                  · with_reducible apply et_is
                    · walk_at "ev"
                    · rfl
                  · exact x_next
              · rfl
          · walk_at "ret"
  exact (B.raw hb .nil).imp fun vs H Q E h => by rw [List.append_nil]; exact h
inductive rTurnOf : List D → D → Prop
  | mk (l : D) (r : List Int) (c : Int) (hl : l.items = some (dP r)) (h0 : r ≠ []) (hz : r.length ≤ 100000) (hc : Bd 100 c) : rTurnOf [l, .int c] (.int (Gd.rt r c))
abbrev N_turn_of_loop : List Str := [("loop" : Str), ("count" : Str), ("around" : Str), ("place" : Str), ("start" : Str), ("step" : Str)]
theorem sc_turn_of_loop : FnScope N_turn_of_loop [("loop" : Str), ("count" : Str)] (defScope s_turn_of_loop) := ⟨rfl, rfl, rfl, by decide +kernel, rfl, by decide +kernel, by decide +kernel⟩
theorem ok_turn_of_loop {f : Addr} {fd : FuncData} (F : FunD K "turn_of_loop" "turn_of_loop" (defArgs s_turn_of_loop) (defBody s_turn_of_loop) (defScope s_turn_of_loop) [] [] f fd) (hb : Binds K fd [("loop" : Str), ("count" : Str)] []) (T : Txt K mg) : FnR P w K mg base CX0 1 f (spD K 2 rTurnOf) := by
  have B : FnOk P w K mg base CX0 1 f fd [("loop" : Str), ("count" : Str)] (spD K 2 rTurnOf) := by
    refine F.ok sc_turn_of_loop (fun vs H Q E h => h.1) (fun cdv A outer s H vs Q E hr h => ?_)
    have hu := hr.units
    have hu1 : _ + 1 < cLine := Nat.lt_of_le_of_lt (Nat.add_le_add_left (by decide : 1 ≤ 64) _) hr.units
    have nd := sc_turn_of_loop.nd
    refine ⟨_, PSs.nox (pss_cons (ps_asg (pe_callB call_divmod (by rfl) T.b_divmod (by decide +kernel) (pa_cons (pv 1) (pa_cons (pe_callB call_lenA (by rfl) T.b_len (by decide +kernel) (pa_cons (pv 0) pa_nil)) pa_nil))) (pg_tup rfl (pgs_cons (pg_name (i := 2) nd rfl (Or.inl rfl)) (pgs_cons (pg_name (i := 3) nd rfl (Or.inl rfl)) pgs_nil))))
      (pss_cons (ps_asg (pe_ix (show IxR _ (rIx K) from ix_seq) (pv 0) (pv 3) (fun _ _ => rfl)) (pg_tup rfl (pgs_cons (pg_name (i := 4) nd rfl (Or.inl rfl)) (pgs_cons (pg_name (i := 5) nd rfl (Or.inl rfl)) pgs_nil))))
      (pss_one (ps_ret (pe_op op_add (pv 4) (pe_op op_mulW (pv 5) (pv 2))))))), enter h (by decide) ?_⟩
    rintro _ _ ⟨l, r, c, hl, h0, hz, hc⟩ _
    left
    show ExD K _ [.fr l, .fr (.int c), .un, .un, .un, .un] _
    have hp : 0 < r.length := List.length_pos_iff.mpr h0
    walk_at "clean"
    walk_at "as2"
    · rw [List.length_map]
      exact ⟨by omega, by omega⟩
    · rw [List.length_map]
      with_reducible apply xs_as2
      · with_reducible apply ev_ix
        · walk_at "ev"
        · walk_at "ev"
        · exact hl
        · exact dP_at h0 c
      · dsimp only [List.set]
        with_reducible apply x_ret
        with_reducible apply ev_is
        · walk_at "ev"
          exact Bd.cm (k := 0) (l := 100) Bd.i0 (hc.ediv (by omega)) (by omega)
        · simp
  exact (B.raw hb .nil).imp fun vs H Q E h => by rw [List.append_nil]; exact h
inductive rLoopFrom : List D → D → Prop
  | mk (l : D) (r : List Int) (c : Int) (hl : l.items = some (dP r)) (h0 : r ≠ []) (hz : r.length ≤ 40000) (hc : -50000 ≤ c ∧ c ≤ 50000) : rLoopFrom [l, .int c] (.tup (dP (Gd.rot r c)))
theorem bd_small {c : Int} (h : -100000 ≤ c ∧ c ≤ 100000) : Bd 100 c := by
  have h1 : Bd 20 c := by unfold Bd; omega
  exact h1.le (by decide)
abbrev N_loop_from : List Str := [("loop" : Str), ("count" : Str), ("size" : Str), ("at" : Str)]
theorem sc_loop_from : FnScope N_loop_from [("loop" : Str), ("count" : Str)] (defScope s_loop_from) := ⟨rfl, rfl, rfl, by decide +kernel, rfl, by decide +kernel, by decide +kernel⟩
theorem ok_loop_from {f : Addr} {fd : FuncData} (F : FunD K "loop_from" "loop_from" (defArgs s_loop_from) (defBody s_loop_from) (defScope s_loop_from) [] [] f fd) (hb : Binds K fd [("loop" : Str), ("count" : Str)] []) (T : Txt K mg) (h_turn_of_loop : Fn P w K mg base "turn_of_loop" 1 (spD K 2 rTurnOf)) : FnR P w K mg base CX0 2 f (spD K 2 rLoopFrom) := by
  have B : FnOk P w K mg base CX0 2 f fd [("loop" : Str), ("count" : Str)] (spD K 2 rLoopFrom) := by
    refine F.ok sc_loop_from (fun vs H Q E h => h.1) (fun cdv A outer s H vs Q E hr h => ?_)
    have hr1 : Room 1 _ := hr.mono (by decide)
    have hu := hr.units
    have hu1 : _ + 1 < cLine := Nat.lt_of_le_of_lt (Nat.add_le_add_left (by decide : 1 ≤ 64) _) hr.units
    have nd := sc_loop_from.nd
    refine ⟨_, PSs.nox (pss_cons (ps_set (i := 2) nd rfl (Or.inr rfl) (pe_callB call_lenA (by rfl) T.b_len (by decide +kernel) (pa_cons (pv 0) pa_nil)))
      (pss_one (ps_ret (pe_callTy call_tupA (by rfl) T.b_tuple (by decide +kernel) (pa_cons (pe_lc (own := [(("at" : Str), 3)]) rfl nd (pi_range2 rfl T.b_range (pa_cons (pv 1) (pa_cons (pe_op op_add (pv 1) (pv 2)) pa_nil))) (blkOk_by (N := N_loop_from) (sc := defScope s_loop_from) (by decide +kernel)) (fun _ _ _ _ _ => (pg_name (i := 3) nd rfl (Or.inl rfl))) (fun _ _ _ _ _ => pts_nil) (fun _ _ _ _ _ => (pe_tup (pa_cons (pe_fn h_turn_of_loop hr1 rfl (pa_cons (pv 0) (pa_cons (pv 3) pa_nil))) (pa_cons (pe_ix (show IxR _ (rIx K) from ix_seq) (pe_ix (show IxR _ (rIx K) from ix_seq) (pv 0) (pe_op op_mod (pv 3) (pv 2)) (fun _ _ => rfl)) pe_int (fun _ _ => rfl)) pa_nil))))) pa_nil))))), enter h (by decide) ?_⟩
    rintro _ _ ⟨l, r, c, hl, h0, hz, hc⟩ _
    left
    show ExD K _ [.fr l, .fr (.int c), .un, .un] _
    have hp : 0 < r.length := List.length_pos_iff.mpr h0
    walk_at "clean"
    walk_at "set"
    rw [List.length_map]
    with_reducible apply x_ret
    with_reducible apply ev_tupleL
    with_reducible apply ev_l
    with_reducible apply el_is
    · refine el_lcA (Δ0 := [.fr l, .fr (.int c), .fr (.int r.length), .un]) (fun i => dPr (Gd.rt r (c + i))) (ei_range2 (lo := c) (hi := c + r.length) ?_ (by omega)) (gn_name (by decide)) gm_name (hnoB rfl) (by simp; omega) ?_
      · walk_at "ev"
      · intro i d hd
        rw [List.getElem?_map] at hd
        cases q : (List.range (c + (r.length : Int) - c).toNat)[i]? with
        | none => rw [q] at hd; cases hd
        | some j =>
          rw [q] at hd
          cases hd
          obtain ⟨hj, rfl⟩ := List.getElem?_eq_some_iff.mp q
          rw [List.getElem_range]
          have hi : i < r.length := by simp at hj; omega
          refine ⟨[.fr l, .fr (.int c), .fr (.int r.length), .fr (.int (c + i))], as_name, rfl, ?_⟩
          walk_at "ev"
          · exact .mk l r (c + i) hl h0 (by omega) (bd_small (by omega))
          · with_reducible apply ev_ix (ds := [.int (Gd.rt r (c + i)), .int 0])
            · with_reducible apply ev_ix
              · walk_at "ev"
              · walk_at "ev"
                omega
              · exact hl
              · exact dP_at h0 _
            · walk_at "ev"
            · rfl
            · rfl
    · unfold Gd.rot
      have e : (c + (r.length : Int) - c).toNat = r.length := by omega
      rw [dP, List.map_map, List.length_map, List.length_range, e]
      rfl
  exact (B.raw hb .nil).imp fun vs H Q E h => by rw [List.append_nil]; exact h
def tin (f r : List Int) (n : Nat) : Int := if n < f.length then f.getD n 0 else Gd.rt r ((n : Int) - f.length)
inductive rTurnIn : List D → D → Prop
  | mk (x l : D) (f r : List Int) (n : Nat) (hx : x.items = some (dI f)) (hl : l.items = some (dP r)) (h0 : r ≠ []) (hz : r.length ≤ 40000) (hf : f.length ≤ 40000) (hn : n ≤ 40000) : rTurnIn [x, l, .int n] (.int (tin f r n))
abbrev N_turn_in : List Str := [("head" : Str), ("loop" : Str), ("place" : Str)]
theorem sc_turn_in : FnScope N_turn_in [("head" : Str), ("loop" : Str), ("place" : Str)] (defScope s_turn_in) := ⟨rfl, rfl, rfl, by decide +kernel, rfl, by decide +kernel, by decide +kernel⟩
theorem ok_turn_in {f : Addr} {fd : FuncData} (F : FunD K "turn_in" "turn_in" (defArgs s_turn_in) (defBody s_turn_in) (defScope s_turn_in) [] [] f fd) (hb : Binds K fd [("head" : Str), ("loop" : Str), ("place" : Str)] []) (T : Txt K mg) (h_turn_of_loop : Fn P w K mg base "turn_of_loop" 1 (spD K 2 rTurnOf)) : FnR P w K mg base CX0 2 f (spD K 3 rTurnIn) := by
  have B : FnOk P w K mg base CX0 2 f fd [("head" : Str), ("loop" : Str), ("place" : Str)] (spD K 3 rTurnIn) := by
    refine F.ok sc_turn_in (fun vs H Q E h => h.1) (fun cdv A outer s H vs Q E hr h => ?_)
    have hr1 : Room 1 _ := hr.mono (by decide)
    have hu := hr.units
    have hu1 : _ + 1 < cLine := Nat.lt_of_le_of_lt (Nat.add_le_add_left (by decide : 1 ≤ 64) _) hr.units
    have nd := sc_turn_in.nd
    refine ⟨_, PSs.nox (pss_cons (ps_if (pt_cmpR op_lt (pv 2) pe_int (nomark _)) (pss_one (ps_ret pe_non)) pss_nil)
      (pss_cons (ps_if (pt_cmpR op_lt (pv 2) (pe_callB call_lenA (by rfl) T.b_len (by decide +kernel) (pa_cons (pv 0) pa_nil)) (nomark _)) (pss_one (ps_ret (pe_ix (show IxR _ (rIx K) from ix_seq) (pv 0) (pv 2) (fun _ _ => rfl)))) pss_nil)
      (pss_cons (ps_if (pt_cmpR op_eq (pe_callB call_lenA (by rfl) T.b_len (by decide +kernel) (pa_cons (pv 1) pa_nil)) pe_int (nomark _)) (pss_one (ps_ret pe_non)) pss_nil)
      (pss_one (ps_ret (pe_fn h_turn_of_loop hr1 rfl (pa_cons (pv 1) (pa_cons (pe_op op_sub (pv 2) (pe_callB call_lenA (by rfl) T.b_len (by decide +kernel) (pa_cons (pv 0) pa_nil))) pa_nil)))))))), enter h (by decide) ?_⟩
    rintro _ _ ⟨x, l, f, r, n, hx, hl, h0, hz, hf, hn⟩ _
    left
    show ExD K _ [.fr x, .fr l, .fr (.int n)] _
    have hp : 0 < r.length := List.length_pos_iff.mpr h0
    walk_at "clean"
    walk_at "skip"
    unfold tin
    split
    · rename_i h
      with_reducible apply xs_take
      · walk_at "ev"
      · rw [List.length_map]; simp; omega
      · with_reducible apply x_ret
        with_reducible apply ev_ix
        · walk_at "ev"
        · walk_at "ev"
        · exact hx
        · apply atI_nat
          rw [List.getElem?_map, List.getD_eq_getElem?_getD, List.getElem?_eq_getElem h]; rfl
    · rename_i h
      with_reducible apply xs_skip
      · walk_at "ev"
      · rw [List.length_map]; simp; omega
      · with_reducible apply xs_skip
        · walk_at "ev"
        · rw [List.length_map]; simp; exact h0
        · with_reducible apply x_ret
          walk_at "ev"
          rw [List.length_map]
          exact .mk l r _ hl h0 (by omega) (bd_small (by omega))
  exact (B.raw hb .nil).imp fun vs H Q E h => by rw [List.append_nil]; exact h
theorem tin_unroll {f r : List Int} (h0 : r ≠ []) (m : Nat) : f ++ (List.range m).map (fun i : Nat => Gd.rt r i) = (List.range (f.length + m)).map (tin f r) := by
  apply List.ext_getElem
  · simp
  · intro i h1 h2
    simp only [List.length_append, List.length_map, List.length_range] at h1 h2
    rw [List.getElem_map, List.getElem_range]
    unfold tin
    by_cases h : i < f.length
    · rw [if_pos h, List.getElem_append_left h, List.getD_eq_getElem?_getD, List.getElem?_eq_getElem h]; rfl
    · rw [if_neg h, List.getElem_append_right (by omega), List.getElem_map, List.getElem_range]
      congr 1; omega
inductive rUnrolled : List D → D → Prop
  | mk (x l : D) (f r : List Int) (n : Nat) (hx : x = .tup (dI f)) (hl : l.items = some (dP r)) (h0 : r ≠ []) (hz : r.length ≤ 40000) (hf : f.length ≤ 40000) (hn : n ≤ 40000) : rUnrolled [x, l, .int n] (.tup [.tup (dI ((List.range (f.length + (n - f.length))).map (tin f r))), .tup (dP (Gd.rot r ((n - f.length : Nat) : Int)))])
abbrev N_unrolled : List Str := [("head" : Str), ("loop" : Str), ("many" : Str), ("missing" : Str), ("turns" : Str), ("count" : Str)]
theorem sc_unrolled : FnScope N_unrolled [("head" : Str), ("loop" : Str), ("many" : Str)] (defScope s_unrolled) := ⟨rfl, rfl, rfl, by decide +kernel, rfl, by decide +kernel, by decide +kernel⟩
theorem ok_unrolled {f : Addr} {fd : FuncData} (F : FunD K "unrolled" "unrolled" (defArgs s_unrolled) (defBody s_unrolled) (defScope s_unrolled) [] [] f fd) (hb : Binds K fd [("head" : Str), ("loop" : Str), ("many" : Str)] []) (T : Txt K mg) (h_turn_of_loop : Fn P w K mg base "turn_of_loop" 1 (spD K 2 rTurnOf)) (h_loop_from : Fn P w K mg base "loop_from" 2 (spD K 2 rLoopFrom)) : FnR P w K mg base CX0 3 f (spD K 3 rUnrolled) := by
  have B : FnOk P w K mg base CX0 3 f fd [("head" : Str), ("loop" : Str), ("many" : Str)] (spD K 3 rUnrolled) := by
    refine F.ok sc_unrolled (fun vs H Q E h => h.1) (fun cdv A outer s H vs Q E hr h => ?_)
    have hr1 : Room 1 _ := hr.mono (by decide)
    have hr2 : Room 2 _ := hr.mono (by decide)
    have hu := hr.units
    have hu1 : _ + 1 < cLine := Nat.lt_of_le_of_lt (Nat.add_le_add_left (by decide : 1 ≤ 64) _) hr.units
    have nd := sc_unrolled.nd
    refine ⟨_, PSs.nox (pss_cons (ps_if (pt_cmpR op_eq (pe_callB call_lenA (by rfl) T.b_len (by decide +kernel) (pa_cons (pv 1) pa_nil)) pe_int (nomark _)) (pss_one (ps_ret (pe_tup (pa_cons (pe_callTy call_tupA (by rfl) T.b_tuple (by decide +kernel) (pa_cons (pv 0) pa_nil)) (pa_cons (pe_tup pa_nil) pa_nil))))) pss_nil)
      (pss_cons (ps_set (i := 3) nd rfl (Or.inl rfl) (pe_callB (call_max2 rfl) (by rfl) T.b_max (by decide +kernel) (pa_cons (pe_op op_sub (pv 2) (pe_callB call_lenA (by rfl) T.b_len (by decide +kernel) (pa_cons (pv 0) pa_nil))) (pa_cons pe_int pa_nil))))
      (pss_cons (ps_setLc (i := 4) (own := [(("count" : Str), 5)]) rfl nd rfl rfl (sw_true rfl rfl rfl (by decide +kernel)) (pi_range1 rfl T.b_range (pa_cons (pv 3) pa_nil)) (blkOk_by (N := N_unrolled) (sc := defScope s_unrolled) (by decide +kernel)) (fun _ _ _ _ _ => (pg_name (i := 5) nd rfl (Or.inl rfl))) (fun _ _ _ _ _ => pts_nil) (fun _ _ _ _ _ => (pe_fn h_turn_of_loop hr1 rfl (pa_cons (pv 1) (pa_cons (pv 5) pa_nil)))))
      (pss_one (ps_ret (pe_tup (pa_cons (pe_op op_catA (pe_callTy call_tupA (by rfl) T.b_tuple (by decide +kernel) (pa_cons (pv 0) pa_nil)) (pe_callTy call_tupA (by rfl) T.b_tuple (by decide +kernel) (pa_cons (pv 4) pa_nil))) (pa_cons (pe_fn h_loop_from hr2 rfl (pa_cons (pv 1) (pa_cons (pv 3) pa_nil))) pa_nil)))))))), enter h (by decide) ?_⟩
    rintro _ _ ⟨x, l, f, r, n, rfl, hl, h0, hz, hf, hn⟩ _
    left
    show ExD K _ [.fr (.tup (dI f)), .fr l, .fr (.int n), .un, .un, .un] _
    have hp : 0 < r.length := List.length_pos_iff.mpr h0
    walk_at "clean"
    with_reducible apply xs_skip
    · walk_at "ev"
    · rw [List.length_map]; simp; exact h0
    · with_reducible apply xs_set (d := .int ((n - f.length : Nat) : Int))
      · with_reducible apply ev_is
        · walk_at "ev"
        · rw [List.length_map]
          congr 1
          split <;> omega
      · dsimp only [List.set]
        with_reducible apply xs_setL (ds := (List.range (n - f.length)).map fun i : Nat => D.int (Gd.rt r i))
        · with_reducible apply el_is
          · refine el_lcA (Δ0 := [.fr (.tup (dI f)), .fr l, .fr (.int n), .fr (.int ((n - f.length : Nat) : Int)), .un, .un]) (fun i => .int (Gd.rt r i)) (ei_range1 (n := ((n - f.length : Nat) : Int)) ?_ (by omega) (by omega)) (gn_name (by decide)) gm_name (hnoB rfl) (by simp; omega) ?_
            · walk_at "ev"
            · intro i d hd
              rw [List.getElem?_map] at hd
              cases q : (List.range (((n - f.length : Nat) : Int)).toNat)[i]? with
              | none => rw [q] at hd; cases hd
              | some j =>
                rw [q] at hd
                cases hd
                obtain ⟨hj, rfl⟩ := List.getElem?_eq_some_iff.mp q
                rw [List.getElem_range]
                have hi : i < n - f.length := by simp at hj; omega
                refine ⟨[.fr (.tup (dI f)), .fr l, .fr (.int n), .fr (.int ((n - f.length : Nat) : Int)), .un, .fr (.int i)], as_name, rfl, ?_⟩
                walk_at "ev"
                exact .mk l r i hl h0 (by omega) (bd_small (by omega))
          · simp
        · dsimp only [List.set]
          refine x_freeze (i := 4) rfl ?_
          dsimp only [List.set]
          with_reducible apply x_ret
          with_reducible apply ev_tup
          · with_reducible apply ea_cons
            · with_reducible apply ev_is
              · with_reducible apply ev_catT
                · with_reducible apply ev_tupleT
                  walk_at "ev"
                · with_reducible apply ev_tupleL
                  walk_at "ev"
                · simp; omega
              · rw [← tin_unroll h0]; simp only [dI, List.map_append, List.map_map]; rfl
            · walk_at "ev"
              exact .mk l r _ hl h0 hz (by omega)
          · simp
  exact (B.raw hb .nil).imp fun vs H Q E h => by rw [List.append_nil]; exact h
end
end Gw


set_option Elab.async false
set_option linter.all false
set_option maxRecDepth 100000
set_option maxHeartbeats 4000000
namespace Gw
open PySem PySem.Spec PyProof.Rows L2 DL
local macro_rules | `(tactic| walk_at "bd") => `(tactic| first
  | assumption
  | exact Bd.i0 | exact Bd.i1 | exact Bd.i2 | exact Bd.i4 | exact Bd.m2 | exact Bd.m1
  | ((with_reducible apply BdT.a) <;> assumption) | ((with_reducible apply BdT.b) <;> assumption) | ((with_reducible apply BdT.c) <;> assumption) | ((with_reducible apply BdT.d) <;> assumption)
  | ((with_reducible apply Bd.mul) <;> walk_at "bd")
  | ((with_reducible apply Bd.add) <;> walk_at "bd")
  | ((with_reducible apply Bd.sub) <;> walk_at "bd")
  | ((with_reducible apply Bd.neg) <;> walk_at "bd"))
local macro_rules | `(tactic| walk_at "ev") => `(tactic| first
  | ((with_reducible show ExD _ _ _ _); try dsimp only [List.set])
  | with_reducible exact ev_int | with_reducible exact ev_non | with_reducible exact ev_bl | with_reducible exact ev_str
  | ((with_reducible apply ev_var); exact rfl)
  | with_reducible exact ea_nil
  | ((with_reducible apply ea_cons) <;> walk_at "ev")
  | ((with_reducible apply ev_add) <;> walk_at "ev")
  | ((with_reducible apply ev_sub) <;> walk_at "ev")
  | ((with_reducible apply ev_mul) <;> walk_at "ev")
  | ((with_reducible apply ev_fdiv) <;> walk_at "ev")
  | ((with_reducible apply ev_mod) <;> walk_at "ev")
  | ((with_reducible apply ev_lt) <;> walk_at "ev")
  | ((with_reducible apply ev_le) <;> walk_at "ev")
  | ((with_reducible apply ev_gt) <;> walk_at "ev")
  | ((with_reducible apply ev_ge) <;> walk_at "ev")
  | ((with_reducible apply ev_eqS (tb := tC (V.str _)) (hb := ev_str)) <;> walk_at "ev")
  | ((with_reducible apply ev_neS (tb := tC (V.str _)) (hb := ev_str)) <;> walk_at "ev")
  | ((with_reducible apply ev_eqI) <;> walk_at "ev")
  | ((with_reducible apply ev_neI) <;> walk_at "ev")
  | ((with_reducible apply ev_neg) <;> walk_at "ev")
  | ((with_reducible apply ev_gcd) <;> walk_at "ev")
  | ((with_reducible apply ev_fld) <;> walk_at "ev")
  | ((with_reducible apply et_test) <;> walk_at "ev")
  | ((with_reducible apply et_B) <;> walk_at "ev")
  | ((with_reducible apply et_not) <;> walk_at "ev")
  | ((with_reducible apply ev_tup) <;> walk_at "ev")
  | ((with_reducible apply ev_make') <;> walk_at "ev")
  | ((with_reducible apply ev_call') <;> walk_at "ev")
  | ((with_reducible apply ev_meth') <;> walk_at "ev")
  | ((with_reducible show List.length _ = _); exact rfl)
  | ((with_reducible show List.length _ + 1 = _); exact rfl)
  | ((with_reducible show List.lookup _ _ = _); exact rfl)
  | ((with_reducible apply et_or') <;> walk_at "ev")
  | ((with_reducible apply et_and') <;> walk_at "ev")
  | ((with_reducible apply ev_own2) <;> walk_at "ev")
  | ((with_reducible apply ev_own1) <;> walk_at "ev")
  | ((with_reducible apply ev_st) <;> walk_at "ev")
  | ((with_reducible apply ev_abs) <;> walk_at "ev")
  | ((with_reducible apply ev_max2) <;> walk_at "ev")
  | ((with_reducible apply ev_divmod) <;> walk_at "ev")
  | ((with_reducible apply ev_intI) <;> walk_at "ev")
  | ((with_reducible apply ev_isN) <;> walk_at "ev")
  | ((with_reducible apply ev_notN) <;> walk_at "ev")
  | ((with_reducible apply ev_eqS) <;> walk_at "ev")
  | ((with_reducible apply ev_neS) <;> walk_at "ev")
  | ((with_reducible apply ev_lenO); exact rfl)
  | ((with_reducible apply ev_len) <;> walk_at "ev")
  | ((with_reducible show D.items _ = _); first | assumption | exact rfl)
  | ((with_reducible show rTableI _ _ _); exact ⟨rfl, rfl⟩)
  | ((with_reducible show _ = false); first | rfl | (simp; done) | (simp; omega))
  | ((with_reducible show _ = true); first | rfl | (simp; done) | (simp; omega))
  | ((with_reducible show 2 = _); exact rfl)
  | ((with_reducible show 1 = _); exact rfl)
  | exact Txt.clTable ‹_› | exact Txt.clFrac ‹_› | exact Txt.clRow ‹_› | exact Txt.clRoot ‹_›
  | exact Txt.nTable_a ‹_› | exact Txt.nTable_b ‹_› | exact Txt.nTable_c ‹_› | exact Txt.nTable_d ‹_› | exact Txt.nFrac_top ‹_› | exact Txt.nFrac_bottom ‹_›
  | exact Txt.nRow_head ‹_› | exact Txt.nRow_loop ‹_› | exact Txt.nRow_kind ‹_› | exact Txt.nRoot_a ‹_› | exact Txt.nRoot_b ‹_› | exact Txt.nRoot_c ‹_› | exact Txt.nRoot_disc ‹_›
  | ((with_reducible apply Bd.cm) <;> first | walk_at "bd" | omega)
  | ((with_reducible show _ ≤ _); simp only [List.length_cons, List.length_nil]; omega)
  | ((with_reducible intro _); walk_at "ev")
  | skip)
local macro_rules | `(tactic| walk_at "set") => `(tactic| ((with_reducible apply xs_set) <;> walk_at "ev"))
local macro_rules | `(tactic| walk_at "ret") => `(tactic| ((with_reducible apply x_ret) <;> walk_at "ev"))
local macro_rules | `(tactic| walk_at "as4") => `(tactic| ((with_reducible (first | apply xs_as4 | apply xl_as4)) <;> walk_at "ev"))
local macro_rules | `(tactic| walk_at "as3") => `(tactic| ((with_reducible (first | apply xs_as3 | apply xl_as3)) <;> walk_at "ev"))
local macro_rules | `(tactic| walk_at "as2") => `(tactic| ((with_reducible (first | apply xs_as2 | apply xl_as2)) <;> walk_at "ev"))
local macro_rules | `(tactic| walk_at "par") => `(tactic| ((with_reducible (first | apply xs_par | apply x_par)) <;> walk_at "ev"))
local macro_rules | `(tactic| walk_at "fld") => `(tactic| ((with_reducible (first | apply xs_fld | apply x_fld)) <;> first | exact rfl | decide | walk_at "ev"))
local macro_rules | `(tactic| walk_at "guard") => `(tactic| ((with_reducible apply xs_guard) <;> walk_at "ev"))
local macro_rules | `(tactic| walk_at "skip") => `(tactic| ((with_reducible apply xs_skip) <;> walk_at "ev"))
local macro_rules | `(tactic| walk_at "take") => `(tactic| ((with_reducible apply xs_take) <;> walk_at "ev"))
local macro_rules | `(tactic| walk_at "clean") => `(tactic| try simp only [cxK, cxK', asnL, List.length_cons, List.length_nil, Nat.zero_add, Nat.reduceAdd])
section
variable {P : Program} {w : World} {K : Frag} {mg : Str → Option Value} {base : Heap}
theorem least_nat (p : Nat → Prop) : ∀ n : Nat, p n → ∃ m, m ≤ n ∧ p m ∧ ∀ j, j < m → ¬ p j := fun n => by
  induction n using Nat.strongRecOn with
  | _ n ih =>
    intro h
    by_cases hh : ∃ m, m < n ∧ p m
    · obtain ⟨m, hm, pm⟩ := hh
      obtain ⟨k, hk, pk, hl⟩ := ih m hm pm
      exact ⟨k, by omega, pk, hl⟩
    · exact ⟨n, Nat.le_refl _, h, fun j hj pj => hh ⟨j, hj, pj⟩⟩
def bad (r : List Int) (s k p a : Nat) : Prop := r.getD (p + s * a) 0 ≠ r.getD p 0 + (r.getD (p + s) 0 - r.getD p 0) * a ∨ (0 : Int) ≠ (r.getD (p + s) 0 - r.getD p 0) * k
theorem per_bad {r : List Int} {s k : Nat} (hs : 1 ≤ s) (hk : r.length = s * k) (h2 : 2 ≤ k) : Gd.Per r s ↔ ∀ p, p < s → ∀ a, a < k → ¬ bad r s k p a := by
  constructor
  · intro h p hp a ha hb
    have get : ∀ a, a < k → r.getD (p + s * a) 0 = r.getD p 0 := fun a ha => by
      have hlt : p + s * a < r.length := by
        have : s * (a + 1) ≤ s * k := Nat.mul_le_mul_left _ (by omega)
        rw [Nat.mul_succ] at this; omega
      rw [h _ hlt, Nat.add_mul_mod_self_left, Nat.mod_eq_of_lt hp]
    have e1 : r.getD (p + s) 0 = r.getD p 0 := by have := get 1 (by omega); rwa [Nat.mul_one] at this
    rcases hb with hb | hb
    · apply hb; rw [get a ha, e1]; simp
    · apply hb; rw [e1]; simp
  · intro h i hi
    have hp : i % s < s := Nat.mod_lt _ (by omega)
    have h0 := h (i % s) hp 0 (by omega)
    have st : r.getD (i % s + s) 0 - r.getD (i % s) 0 = 0 := by
      rcases Int.lt_trichotomy (r.getD (i % s + s) 0 - r.getD (i % s) 0) 0 with h1 | h1 | h1
      · exact absurd (Or.inr (by have := Int.mul_neg_of_neg_of_pos h1 (show (0 : Int) < k by omega); omega)) h0
      · exact h1
      · exact absurd (Or.inr (by have := Int.mul_pos h1 (show (0 : Int) < k by omega); omega)) h0
    have ha : i / s < k := by rw [Nat.div_lt_iff_lt_mul (by omega), Nat.mul_comm]; omega
    have h1 := h (i % s) hp (i / s) ha
    have e : r.getD (i % s + s * (i / s)) 0 = r.getD (i % s) 0 := by
      rcases Classical.em (r.getD (i % s + s * (i / s)) 0 = r.getD (i % s) 0) with e | e
      · exact e
      · exact absurd (Or.inl (by rw [st]; simpa using e)) h1
    rwa [Nat.mod_add_div] at e
theorem dP_nat {r : List Int} {i : Nat} (h : i < r.length) : atI (dP r) (i : Int) = some (dPr (r.getD i 0)) := by
  apply atI_nat
  rw [List.getElem?_map, List.getElem?_eq_getElem h, List.getD_eq_getElem?_getD, List.getElem?_eq_getElem h]; rfl
theorem dI_nat {r : List Int} {i : Nat} (h : i < r.length) : atI (dI r) (i : Int) = some (.int (r.getD i 0)) := by
  apply atI_nat
  rw [List.getElem?_map, List.getElem?_eq_getElem h, List.getD_eq_getElem?_getD, List.getElem?_eq_getElem h]; rfl
theorem dP_snoc (xs : List Int) (t : Int) : dP (xs ++ [t]) = dP xs ++ [dPr t] := by simp [dP]
theorem dI_snoc (xs : List Int) (t : Int) : dI (xs ++ [t]) = dI xs ++ [.int t] := by simp [dI]
theorem getD_bd {r : List Int} {b i : Nat} (h : ∀ x ∈ r, Bd b x) (hi : i < r.length) : Bd b (r.getD i 0) := by
  rw [List.getD_eq_getElem?_getD, List.getElem?_eq_getElem hi]
  exact h _ (List.getElem_mem hi)
theorem range_get {n i : Nat} {d : D} {f : Nat → D} (h : ((List.range n).map f)[i]? = some d) : i < n ∧ d = f i := by
  rw [List.getElem?_map] at h
  cases q : (List.range n)[i]? with
  | none => rw [q] at h; cases h
  | some j =>
    rw [q] at h
    obtain ⟨hj, rfl⟩ := List.getElem?_eq_some_iff.mp q
    rw [List.getElem_range] at h
    cases h
    rw [List.length_range] at hj
    exact ⟨hj, rfl⟩
inductive rSpread : List D → D → Prop
  | yes (r : List Int) (s k b : Nat) (hs : 1 ≤ s) (hk : r.length = s * k) (h2 : 2 ≤ k) (hz : r.length ≤ 20000) (hb : ∀ x ∈ r, Bd b x) (hbz : b ≤ 400000) (hp : Gd.Per r s) : rSpread [.lst (dP r), .int s] (.lst (dP (r.take s)))
  | no (r : List Int) (s k b : Nat) (hs : 1 ≤ s) (hk : r.length = s * k) (h2 : 2 ≤ k) (hz : r.length ≤ 20000) (hb : ∀ x ∈ r, Bd b x) (hbz : b ≤ 400000) (hp : ¬ Gd.Per r s) : rSpread [.lst (dP r), .int s] .non
abbrev N__spread : List Str := [("loop" : Str), ("size" : Str), ("rounds" : Str), ("pairs" : Str), ("place" : Str), ("start" : Str), ("step" : Str), ("around" : Str), ("turn" : Str), ("growth" : Str)]
theorem sc__spread : FnScope N__spread [("loop" : Str), ("size" : Str)] (defScope s__spread) := ⟨rfl, rfl, rfl, by decide +kernel, rfl, by decide +kernel, by decide +kernel⟩
theorem ok__spread {f : Addr} {fd : FuncData} (F : FunD K "_spread" "_spread" (defArgs s__spread) (defBody s__spread) (defScope s__spread) [] [] f fd) (hb : Binds K fd [("loop" : Str), ("size" : Str)] []) (T : Txt K mg) : FnR P w K mg base CX0 1 f (spD K 2 rSpread) := by
  have B : FnOk P w K mg base CX0 1 f fd [("loop" : Str), ("size" : Str)] (spD K 2 rSpread) := by
    refine F.ok sc__spread (fun vs H Q E h => h.1) (fun cdv A outer s H vs Q E hr h => ?_)
    have hu := hr.units
    have hu1 : _ + 1 < cLine := Nat.lt_of_le_of_lt (Nat.add_le_add_left (by decide : 1 ≤ 64) _) hr.units
    have nd := sc__spread.nd
    refine ⟨_, PSs.nox (pss_cons (ps_set (i := 2) nd rfl (Or.inl rfl) (pe_op op_fdivW (pe_callB call_lenA (by rfl) T.b_len (by decide +kernel) (pa_cons (pv 0) pa_nil)) (pv 1)))
      (pss_cons (ps_set (i := 3) nd rfl (Or.inl rfl) (pe_lst pa_nil))
      (pss_cons (ps_for PassesOwn.never rfl (pi_range1 rfl T.b_range (pa_cons (pv 1) pa_nil)) (pg_name (i := 4) nd rfl (Or.inl rfl)) (pss_cons (ps_set (i := 5) nd rfl (Or.inl rfl) (pe_ix (show IxR _ (rIx K) from ix_seq) (pe_ix (show IxR _ (rIx K) from ix_seq) (pv 0) (pv 4) (fun _ _ => rfl)) pe_int (fun _ _ => rfl)))
        (pss_cons (ps_set (i := 6) nd rfl (Or.inl rfl) (pe_op op_sub (pe_ix (show IxR _ (rIx K) from ix_seq) (pe_ix (show IxR _ (rIx K) from ix_seq) (pv 0) (pe_op op_add (pv 4) (pv 1)) (fun _ _ => rfl)) pe_int (fun _ _ => rfl)) (pv 5)))
        (pss_cons (ps_for PassesOwn.never rfl (pi_range1 rfl T.b_range (pa_cons (pv 2) pa_nil)) (pg_name (i := 7) nd rfl (Or.inl rfl)) (pss_cons (ps_asg (pe_ix (show IxR _ (rIx K) from ix_seq) (pv 0) (pe_op op_add (pv 4) (pe_op op_mulW (pv 1) (pv 7))) (fun _ _ => rfl)) (pg_tup rfl (pgs_cons (pg_name (i := 8) nd rfl (Or.inl rfl)) (pgs_cons (pg_name (i := 9) nd rfl (Or.inl rfl)) pgs_nil))))
          (pss_one (ps_if (PW.pt (pw_or (pt_cmpR op_ne (pv 8) (pe_op op_add (pv 5) (pe_op op_mulW (pv 6) (pv 7))) (nomark _)) (pw_or1 (pt_cmpR op_ne (pv 9) (pe_op op_mulW (pv 6) (pv 2)) (nomark _))))) (pss_one (ps_ret pe_non)) pss_nil))))
        (pss_one (ps_expr (pe_bm PySem.F.plainAttrs_list PySem.F.slot_list_append PySem.F.type_list_append mt_append (pv 3) (pa_cons (pe_tup (pa_cons (pv 5) (pa_cons (pv 6) pa_nil))) pa_nil))))))))
      (pss_one (ps_ret (pv 3)))))), enter h (by decide) ?_⟩
    intro ds d hR _
    left
    obtain ⟨r, s, k, b, hs, hk, h2, hz, hb, hbz, rfl, hd⟩ : ∃ (r : List Int) (s k b : Nat), 1 ≤ s ∧ r.length = s * k ∧ 2 ≤ k ∧ r.length ≤ 20000 ∧ (∀ x ∈ r, Bd b x) ∧ b ≤ 400000 ∧ ds = [.lst (dP r), .int s] ∧ ((Gd.Per r s ∧ d = .lst (dP (r.take s))) ∨ (¬ Gd.Per r s ∧ d = .non)) := by
      cases hR with
      | yes r s k b hs hk h2 hz hb hbz hp => exact ⟨r, s, k, b, hs, hk, h2, hz, hb, hbz, rfl, .inl ⟨hp, rfl⟩⟩
      | no r s k b hs hk h2 hz hb hbz hp => exact ⟨r, s, k, b, hs, hk, h2, hz, hb, hbz, rfl, .inr ⟨hp, rfl⟩⟩
    show ExD K _ [.fr (.lst (dP r)), .fr (.int s), .un, .un, .un, .un, .un, .un, .un, .un] _
    walk_at "clean"
    have hsz : s ≤ 20000 := by
      have := Nat.mul_le_mul_left s (show 1 ≤ k by omega); omega
    have hkz : k ≤ 20000 := by
      have := Nat.mul_le_mul_right k hs; omega
    have bs : Bd 20 (s : Int) := by unfold Bd; omega
    have bk : Bd 20 (k : Int) := by unfold Bd; omega
    have lt : ∀ p a, p < s → a < k → p + s * a < r.length := fun p a hp ha => by
      have : s * (a + 1) ≤ s * k := Nat.mul_le_mul_left _ (by omega)
      rw [Nat.mul_succ] at this; omega
    -- a turn of the inner loop that passes
    with_reducible apply xs_set (d := .int k)
    · with_reducible apply ev_is
      · walk_at "ev"
        exact Bd.cd bs (by omega) (by omega)
      · congr 1
        rw [List.length_map, hk, Int.natCast_mul, Int.mul_ediv_cancel_left _ (by omega)]
    · dsimp only [List.set]
      with_reducible apply xs_setL
      · exact el_lst ea_nil (by decide)
      · dsimp only [List.set]
        have inv : ∀ p : Nat, p < s → Bd b (r.getD p 0) ∧ Bd b (r.getD (p + s) 0) ∧ (r.take (p + 1)) = r.take p ++ [r.getD p 0] := fun p hp => by
          have h1 := lt p 0 hp (by omega)
          have h3 := lt p 1 hp (by omega)
          rw [Nat.mul_zero, Nat.add_zero] at h1
          rw [Nat.mul_one] at h3
          refine ⟨getD_bd hb h1, getD_bd hb h3, ?_⟩
          rw [List.take_add_one, List.getElem?_eq_getElem h1, List.getD_eq_getElem?_getD, List.getElem?_eq_getElem h1]; rfl
        rcases hd with ⟨hper, rfl⟩ | ⟨hper, rfl⟩
        · have ok := (per_bad hs hk h2).mp hper
          refine x_seq (x_for (ei_range1 (Δ1 := [.fr (.lst (dP r)), .fr (.int s), .fr (.int k), .ow none [], .un, .un, .un, .un, .un, .un]) (n := (s : Int)) (ea_cons (ev_var rfl) ea_nil) (by omega) (by omega)) (fun p => [.fr (.lst (dP r)), .fr (.int s), .fr (.int k), .ow none (dP (r.take p)), .un, .un, .un, .un, .un, .un]) (by simp) ?_) ?_
          · intro p d hp hd
            obtain ⟨hp, rfl⟩ := range_get hd
            simp only [Int.toNat_natCast] at hp
            obtain ⟨b1, b2, tk⟩ := inv p hp
            have st : r.getD (p + s) 0 - r.getD p 0 = 0 := by
              have h1 := hper (p + s) (by have := lt p 1 hp (by omega); rwa [Nat.mul_one] at this)
              rw [Nat.add_mod_right, Nat.mod_eq_of_lt hp] at h1
              omega
            refine ⟨_, as_name, .inl ?_⟩
            with_reducible apply x_toF2 (i := 4) (j := 5)
            · with_reducible apply x_forgetR (i := 6)
              dsimp only [List.set]
              with_reducible apply xs_set (d := .int (r.getD p 0))
              · with_reducible apply ev_ix (ds := [.int (r.getD p 0), .int 0])
                · with_reducible apply ev_ix
                  · walk_at "ev"
                  · walk_at "ev"
                  · rfl
                  · exact dP_nat (by have := lt p 0 hp (by omega); omega)
                · walk_at "ev"
                · rfl
                · rfl
              · dsimp only [List.set]
                with_reducible apply xs_set (d := .int 0)
                · with_reducible apply ev_is
                  · with_reducible apply ev_sub (i := r.getD (p + s) 0)
                    · with_reducible apply ev_ix (ds := [.int (r.getD (p + s) 0), .int 0])
                      · with_reducible apply ev_ix
                        · walk_at "ev"
                        · walk_at "ev"
                        · rfl
                        · have := lt p 1 hp (by omega)
                          rw [← Int.natCast_add]
                          exact dP_nat (by rw [Nat.mul_one] at this; exact this)
                      · walk_at "ev"
                      · rfl
                      · rfl
                    · walk_at "ev"
                  · rw [st]
                · dsimp only [List.set]
                  refine x_seq (x_for (ei_range1 (Δ1 := [.fr (.lst (dP r)), .fr (.int s), .fr (.int k), .ow none (dP (r.take p)), .fr (.int p), .fr (.int (r.getD p 0)), .fr (.int 0), .un, .un, .un]) (n := (k : Int)) (ea_cons (ev_var rfl) ea_nil) (by omega) (by omega)) (fun _ => [.fr (.lst (dP r)), .fr (.int s), .fr (.int k), .ow none (dP (r.take p)), .fr (.int p), .fr (.int (r.getD p 0)), .fr (.int 0), .un, .un, .un]) rfl ?_) ?_
                  · intro a d ha hd
                    obtain ⟨ha, rfl⟩ := range_get hd
                    simp only [Int.toNat_natCast] at ha
                    have nb := ok p hp a ha
                    have ba : Bd 20 (a : Int) := by unfold Bd; omega
                    have eq : r.getD (p + s * a) 0 = r.getD p 0 := by
                      unfold bad at nb
                      rw [st] at nb
                      simp at nb
                      simpa using nb
                    refine ⟨_, as_name, .inl ?_⟩
                    with_reducible apply x_toF3 (i := 7) (j := 8) (l := 9)
                    · dsimp only [List.set]
                      with_reducible apply xs_as2 (a := .int (r.getD p 0)) (b := .int 0)
                      · with_reducible apply ev_ix
                        · walk_at "ev"
                        · walk_at "ev"
                        · rfl
                        · rw [← Int.natCast_mul, ← Int.natCast_add, dP_nat (lt p a hp ha), eq]
                      · dsimp only [List.set]
                        with_reducible apply x_if_f
                        · with_reducible apply et_is
                          · walk_at "ev"
                          · simp
                        · exact x_next
                    · rfl
                  · with_reducible apply x_app (ds0 := dP (r.take p)) (ds := dP (r.take p))
                    · rfl
                    · walk_at "ev"
                    · rfl
                    · simp; omega
            · rw [tk, dP_snoc]; rfl
          · refine x_freeze (i := 3) rfl ?_
            dsimp only [List.set]
            with_reducible apply x_ret
            with_reducible apply ev_is
            · walk_at "ev"
            · simp
        · -- the first place that fails
          have hex : ∃ p, p < s ∧ ∃ a, a < k ∧ bad r s k p a := Classical.byContradiction fun hno => hper ((per_bad hs hk h2).mpr fun p hp a ha hb => hno ⟨p, hp, a, ha, hb⟩)
          obtain ⟨p0, hp0, hbad0⟩ := hex
          obtain ⟨p1, hp1, ⟨hp1s, a0, ha0, hb0⟩, hfirst⟩ := least_nat (fun p => p < s ∧ ∃ a, a < k ∧ bad r s k p a) p0 ⟨hp0, hbad0⟩
          obtain ⟨a1, ha1, hb1, hfa⟩ := least_nat (fun a => bad r s k p1 a) a0 hb0
          refine x_seq_rt (x_forC (k := p1) (ei_range1 (Δ1 := [.fr (.lst (dP r)), .fr (.int s), .fr (.int k), .ow none [], .un, .un, .un, .un, .un, .un]) (n := (s : Int)) (ea_cons (ev_var rfl) ea_nil) (by omega) (by omega)) (fun p => [.fr (.lst (dP r)), .fr (.int s), .fr (.int k), .ow none (dP (r.take p)), .un, .un, .un, .un, .un, .un]) (by simp) (by simp; omega) ?_ (.inr ⟨.int p1, [.fr (.lst (dP r)), .fr (.int s), .fr (.int k), .ow none (dP (r.take p1)), .fr (.int p1), .un, .un, .un, .un, .un], ?_, as_name, .inl ⟨.non, rfl, ?_⟩⟩))
          · intro p d hp hd
            obtain ⟨hps, rfl⟩ := range_get hd
            simp only [Int.toNat_natCast] at hps
            obtain ⟨b1, b2, tk⟩ := inv p hps
            have ok : ∀ a, a < k → ¬ bad r s k p a := fun a ha hbd => hfirst p hp ⟨hps, a, ha, hbd⟩
            have st : r.getD (p + s) 0 - r.getD p 0 = 0 := by
              have h0 := ok 0 (by omega)
              rcases Int.lt_trichotomy (r.getD (p + s) 0 - r.getD p 0) 0 with h1 | h1 | h1
              · exact absurd (Or.inr (by have := Int.mul_neg_of_neg_of_pos h1 (show (0 : Int) < k by omega); omega)) h0
              · exact h1
              · exact absurd (Or.inr (by have := Int.mul_pos h1 (show (0 : Int) < k by omega); omega)) h0
            refine ⟨_, as_name, .inl ?_⟩
            with_reducible apply x_toF2 (i := 4) (j := 5)
            · with_reducible apply x_forgetR (i := 6)
              dsimp only [List.set]
              with_reducible apply xs_set (d := .int (r.getD p 0))
              · with_reducible apply ev_ix (ds := [.int (r.getD p 0), .int 0])
                · with_reducible apply ev_ix
                  · walk_at "ev"
                  · walk_at "ev"
                  · rfl
                  · exact dP_nat (by have := lt p 0 hps (by omega); omega)
                · walk_at "ev"
                · rfl
                · rfl
              · dsimp only [List.set]
                with_reducible apply xs_set (d := .int 0)
                · with_reducible apply ev_is
                  · with_reducible apply ev_sub (i := r.getD (p + s) 0)
                    · with_reducible apply ev_ix (ds := [.int (r.getD (p + s) 0), .int 0])
                      · with_reducible apply ev_ix
                        · walk_at "ev"
                        · walk_at "ev"
                        · rfl
                        · have := lt p 1 hps (by omega)
                          rw [← Int.natCast_add]
                          exact dP_nat (by rw [Nat.mul_one] at this; exact this)
                      · walk_at "ev"
                      · rfl
                      · rfl
                    · walk_at "ev"
                  · rw [st]
                · dsimp only [List.set]
                  refine x_seq (x_for (ei_range1 (Δ1 := [.fr (.lst (dP r)), .fr (.int s), .fr (.int k), .ow none (dP (r.take p)), .fr (.int p), .fr (.int (r.getD p 0)), .fr (.int 0), .un, .un, .un]) (n := (k : Int)) (ea_cons (ev_var rfl) ea_nil) (by omega) (by omega)) (fun _ => [.fr (.lst (dP r)), .fr (.int s), .fr (.int k), .ow none (dP (r.take p)), .fr (.int p), .fr (.int (r.getD p 0)), .fr (.int 0), .un, .un, .un]) rfl ?_) ?_
                  · intro a d ha hd
                    obtain ⟨ha, rfl⟩ := range_get hd
                    simp only [Int.toNat_natCast] at ha
                    have nb := ok a ha
                    have ba : Bd 20 (a : Int) := by unfold Bd; omega
                    have eq : r.getD (p + s * a) 0 = r.getD p 0 := by
                      unfold bad at nb
                      rw [st] at nb
                      simp at nb
                      simpa using nb
                    refine ⟨_, as_name, .inl ?_⟩
                    with_reducible apply x_toF3 (i := 7) (j := 8) (l := 9)
                    · dsimp only [List.set]
                      with_reducible apply xs_as2 (a := .int (r.getD p 0)) (b := .int 0)
                      · with_reducible apply ev_ix
                        · walk_at "ev"
                        · walk_at "ev"
                        · rfl
                        · rw [← Int.natCast_mul, ← Int.natCast_add, dP_nat (lt p a hps ha), eq]
                      · dsimp only [List.set]
                        with_reducible apply x_if_f
                        · with_reducible apply et_is
                          · walk_at "ev"
                          · simp
                        · exact x_next
                    · rfl
                  · with_reducible apply x_app (ds0 := dP (r.take p)) (ds := dP (r.take p))
                    · rfl
                    · walk_at "ev"
                    · rfl
                    · simp; omega
            · rw [tk, dP_snoc]; rfl
          · rw [List.getElem?_map, List.getElem?_range (by omega)]; rfl
          · obtain ⟨b1, b2, tk⟩ := inv p1 hp1s
            have bst : Bd (b + b + 1) (r.getD (p1 + s) 0 - r.getD p1 0) := b2.sub b1
            with_reducible apply xs_set (d := .int (r.getD p1 0))
            · with_reducible apply ev_ix (ds := [.int (r.getD p1 0), .int 0])
              · with_reducible apply ev_ix
                · walk_at "ev"
                · walk_at "ev"
                · rfl
                · exact dP_nat (by have := lt p1 0 hp1s (by omega); omega)
              · walk_at "ev"
              · rfl
              · rfl
            · dsimp only [List.set]
              with_reducible apply xs_set (d := .int (r.getD (p1 + s) 0 - r.getD p1 0))
              · with_reducible apply ev_sub (i := r.getD (p1 + s) 0)
                · with_reducible apply ev_ix (ds := [.int (r.getD (p1 + s) 0), .int 0])
                  · with_reducible apply ev_ix
                    · walk_at "ev"
                    · walk_at "ev"
                    · rfl
                    · have := lt p1 1 hp1s (by omega)
                      rw [← Int.natCast_add]
                      exact dP_nat (by rw [Nat.mul_one] at this; exact this)
                  · walk_at "ev"
                  · rfl
                  · rfl
                · walk_at "ev"
              · dsimp only [List.set]
                refine x_seq_rt (x_forC (k := a1) (ei_range1 (Δ1 := [.fr (.lst (dP r)), .fr (.int s), .fr (.int k), .ow none (dP (r.take p1)), .fr (.int p1), .fr (.int (r.getD p1 0)), .fr (.int (r.getD (p1 + s) 0 - r.getD p1 0)), .un, .un, .un]) (n := (k : Int)) (ea_cons (ev_var rfl) ea_nil) (by omega) (by omega)) (fun _ => [.fr (.lst (dP r)), .fr (.int s), .fr (.int k), .ow none (dP (r.take p1)), .fr (.int p1), .fr (.int (r.getD p1 0)), .fr (.int (r.getD (p1 + s) 0 - r.getD p1 0)), .un, .un, .un]) rfl (by simp; omega) ?_ (.inr ⟨.int a1, [.fr (.lst (dP r)), .fr (.int s), .fr (.int k), .ow none (dP (r.take p1)), .fr (.int p1), .fr (.int (r.getD p1 0)), .fr (.int (r.getD (p1 + s) 0 - r.getD p1 0)), .fr (.int a1), .un, .un], ?_, as_name, .inl ⟨.non, rfl, ?_⟩⟩))
                · intro a d ha hd
                  obtain ⟨hak, rfl⟩ := range_get hd
                  simp only [Int.toNat_natCast] at hak
                  have nb := hfa a ha
                  have ba : Bd 20 (a : Int) := by unfold Bd; omega
                  refine ⟨_, as_name, .inl ?_⟩
                  with_reducible apply x_toF3 (i := 7) (j := 8) (l := 9)
                  · dsimp only [List.set]
                    with_reducible apply xs_as2 (a := .int (r.getD (p1 + s * a) 0)) (b := .int 0)
                    · with_reducible apply ev_ix
                      · walk_at "ev"
                      · walk_at "ev"
                      · rfl
                      · rw [← Int.natCast_mul, ← Int.natCast_add, dP_nat (lt p1 a hp1s hak)]
                    · dsimp only [List.set]
                      with_reducible apply x_if_f
                      · with_reducible apply et_is
                        · walk_at "ev"
                        · unfold bad at nb
                          simp only [not_or, Decidable.not_not] at nb
                          simp only [nb.1, ← nb.2, decide_true, Bool.not_true, Bool.or_self]
                      · exact x_next
                  · rfl
                · rw [List.getElem?_map, List.getElem?_range (by omega)]; rfl
                · have ba : Bd 20 (a1 : Int) := by unfold Bd; omega
                  with_reducible apply xs_as2 (a := .int (r.getD (p1 + s * a1) 0)) (b := .int 0)
                  · with_reducible apply ev_ix
                    · walk_at "ev"
                    · walk_at "ev"
                    · rfl
                    · rw [← Int.natCast_mul, ← Int.natCast_add, dP_nat (lt p1 a1 hp1s (by omega))]
                  · dsimp only [List.set]
                    with_reducible apply x_if_t
                    · with_reducible apply et_is
                      · walk_at "ev"
                      · unfold bad at hb1
                        rcases hb1 with h | h
                        · rw [decide_eq_false h]; rfl
                        · rw [decide_eq_false h]; simp
                    · walk_at "ret"
  exact (B.raw hb .nil).imp fun vs H Q E h => by rw [List.append_nil]; exact h
end
end Gw


set_option Elab.async false
set_option linter.all false
set_option maxRecDepth 100000
set_option maxHeartbeats 4000000
namespace Gw
open PySem PySem.Spec PyProof.Rows L2 DL
local macro_rules | `(tactic| walk_at "bd") => `(tactic| first
  | assumption
  | exact Bd.i0 | exact Bd.i1 | exact Bd.i2 | exact Bd.i4 | exact Bd.m2 | exact Bd.m1
  | ((with_reducible apply BdT.a) <;> assumption) | ((with_reducible apply BdT.b) <;> assumption) | ((with_reducible apply BdT.c) <;> assumption) | ((with_reducible apply BdT.d) <;> assumption)
  | ((with_reducible apply Bd.mul) <;> walk_at "bd")
  | ((with_reducible apply Bd.add) <;> walk_at "bd")
  | ((with_reducible apply Bd.sub) <;> walk_at "bd")
  | ((with_reducible apply Bd.neg) <;> walk_at "bd"))
local macro_rules | `(tactic| walk_at "ev") => `(tactic| first
  | ((with_reducible show ExD _ _ _ _); try dsimp only [List.set])
  | with_reducible exact ev_int | with_reducible exact ev_non | with_reducible exact ev_bl | with_reducible exact ev_str
  | ((with_reducible apply ev_var); exact rfl)
  | with_reducible exact ea_nil
  | ((with_reducible apply ea_cons) <;> walk_at "ev")
  | ((with_reducible apply ev_add) <;> walk_at "ev")
  | ((with_reducible apply ev_sub) <;> walk_at "ev")
  | ((with_reducible apply ev_mul) <;> walk_at "ev")
  | ((with_reducible apply ev_fdiv) <;> walk_at "ev")
  | ((with_reducible apply ev_mod) <;> walk_at "ev")
  | ((with_reducible apply ev_lt) <;> walk_at "ev")
  | ((with_reducible apply ev_le) <;> walk_at "ev")
  | ((with_reducible apply ev_gt) <;> walk_at "ev")
  | ((with_reducible apply ev_ge) <;> walk_at "ev")
  | ((with_reducible apply ev_eqS (tb := tC (V.str _)) (hb := ev_str)) <;> walk_at "ev")
  | ((with_reducible apply ev_neS (tb := tC (V.str _)) (hb := ev_str)) <;> walk_at "ev")
  | ((with_reducible apply ev_eqI) <;> walk_at "ev")
  | ((with_reducible apply ev_neI) <;> walk_at "ev")
  | ((with_reducible apply ev_neg) <;> walk_at "ev")
  | ((with_reducible apply ev_gcd) <;> walk_at "ev")
  | ((with_reducible apply ev_fld) <;> walk_at "ev")
  | ((with_reducible apply et_test) <;> walk_at "ev")
  | ((with_reducible apply et_B) <;> walk_at "ev")
  | ((with_reducible apply et_not) <;> walk_at "ev")
  | ((with_reducible apply ev_tup) <;> walk_at "ev")
  | ((with_reducible apply ev_make') <;> walk_at "ev")
  | ((with_reducible apply ev_call') <;> walk_at "ev")
  | ((with_reducible apply ev_meth') <;> walk_at "ev")
  | ((with_reducible show List.length _ = _); exact rfl)
  | ((with_reducible show List.length _ + 1 = _); exact rfl)
  | ((with_reducible show List.lookup _ _ = _); exact rfl)
  | ((with_reducible apply et_or') <;> walk_at "ev")
  | ((with_reducible apply et_and') <;> walk_at "ev")
  | ((with_reducible apply ev_own2) <;> walk_at "ev")
  | ((with_reducible apply ev_own1) <;> walk_at "ev")
  | ((with_reducible apply ev_st) <;> walk_at "ev")
  | ((with_reducible apply ev_abs) <;> walk_at "ev")
  | ((with_reducible apply ev_max2) <;> walk_at "ev")
  | ((with_reducible apply ev_divmod) <;> walk_at "ev")
  | ((with_reducible apply ev_intI) <;> walk_at "ev")
  | ((with_reducible apply ev_isN) <;> walk_at "ev")
  | ((with_reducible apply ev_notN) <;> walk_at "ev")
  | ((with_reducible apply ev_eqS) <;> walk_at "ev")
  | ((with_reducible apply ev_neS) <;> walk_at "ev")
  | ((with_reducible apply ev_lenO); exact rfl)
  | ((with_reducible apply ev_len) <;> walk_at "ev")
  | ((with_reducible show D.items _ = _); first | assumption | exact rfl)
  | ((with_reducible show rTableI _ _ _); exact ⟨rfl, rfl⟩)
  | ((with_reducible show _ = false); first | rfl | (simp; done) | (simp; omega))
  | ((with_reducible show _ = true); first | rfl | (simp; done) | (simp; omega))
  | ((with_reducible show 2 = _); exact rfl)
  | ((with_reducible show 1 = _); exact rfl)
  | exact Txt.clTable ‹_› | exact Txt.clFrac ‹_› | exact Txt.clRow ‹_› | exact Txt.clRoot ‹_›
  | exact Txt.nTable_a ‹_› | exact Txt.nTable_b ‹_› | exact Txt.nTable_c ‹_› | exact Txt.nTable_d ‹_› | exact Txt.nFrac_top ‹_› | exact Txt.nFrac_bottom ‹_›
  | exact Txt.nRow_head ‹_› | exact Txt.nRow_loop ‹_› | exact Txt.nRow_kind ‹_› | exact Txt.nRoot_a ‹_› | exact Txt.nRoot_b ‹_› | exact Txt.nRoot_c ‹_› | exact Txt.nRoot_disc ‹_›
  | ((with_reducible apply Bd.cm) <;> first | walk_at "bd" | omega)
  | ((with_reducible show _ ≤ _); simp only [List.length_cons, List.length_nil]; omega)
  | ((with_reducible intro _); walk_at "ev")
  | skip)
local macro_rules | `(tactic| walk_at "set") => `(tactic| ((with_reducible apply xs_set) <;> walk_at "ev"))
local macro_rules | `(tactic| walk_at "ret") => `(tactic| ((with_reducible apply x_ret) <;> walk_at "ev"))
local macro_rules | `(tactic| walk_at "as4") => `(tactic| ((with_reducible (first | apply xs_as4 | apply xl_as4)) <;> walk_at "ev"))
local macro_rules | `(tactic| walk_at "as3") => `(tactic| ((with_reducible (first | apply xs_as3 | apply xl_as3)) <;> walk_at "ev"))
local macro_rules | `(tactic| walk_at "as2") => `(tactic| ((with_reducible (first | apply xs_as2 | apply xl_as2)) <;> walk_at "ev"))
local macro_rules | `(tactic| walk_at "par") => `(tactic| ((with_reducible (first | apply xs_par | apply x_par)) <;> walk_at "ev"))
local macro_rules | `(tactic| walk_at "fld") => `(tactic| ((with_reducible (first | apply xs_fld | apply x_fld)) <;> first | exact rfl | decide | walk_at "ev"))
local macro_rules | `(tactic| walk_at "guard") => `(tactic| ((with_reducible apply xs_guard) <;> walk_at "ev"))
local macro_rules | `(tactic| walk_at "skip") => `(tactic| ((with_reducible apply xs_skip) <;> walk_at "ev"))
local macro_rules | `(tactic| walk_at "take") => `(tactic| ((with_reducible apply xs_take) <;> walk_at "ev"))
local macro_rules | `(tactic| walk_at "clean") => `(tactic| try simp only [cxK, cxK', asnL, List.length_cons, List.length_nil, Nat.zero_add, Nat.reduceAdd])
section
variable {P : Program} {w : World} {K : Frag} {mg : Str → Option Value} {base : Heap}
theorem least_find {r : List Int} : (∃ i, i < r.length / 2 ∧ Gd.sizeOk r (i + 1) = true ∧ (∀ j, j < i → Gd.sizeOk r (j + 1) = false) ∧ Gd.least r = r.take (i + 1)) ∨ ((∀ j, j < r.length / 2 → Gd.sizeOk r (j + 1) = false) ∧ Gd.least r = r) := by
  by_cases h : ∃ i, i < r.length / 2 ∧ Gd.sizeOk r (i + 1) = true
  · obtain ⟨i0, h0⟩ := h
    obtain ⟨i, hi, ⟨h1, h2⟩, hl⟩ := least_nat (fun i => i < r.length / 2 ∧ Gd.sizeOk r (i + 1) = true) i0 h0
    have hl' : ∀ j, j < i → Gd.sizeOk r (j + 1) = false := fun j hj => by
      cases q : Gd.sizeOk r (j + 1) with
      | false => rfl
      | true => exact absurd ⟨by omega, q⟩ (hl j hj)
    refine .inl ⟨i, h1, h2, hl', ?_⟩
    unfold Gd.least
    have e : (Gd.sizes r).find? (Gd.sizeOk r) = some (i + 1) := by
      rw [List.find?_eq_some_iff_getElem]
      refine ⟨h2, i, by unfold Gd.sizes; simp; omega, by unfold Gd.sizes; simp, fun j hj => ?_⟩
      unfold Gd.sizes
      simp [hl' j hj]
    rw [e]
  · refine .inr ⟨fun j hj => ?_, ?_⟩
    · cases q : Gd.sizeOk r (j + 1) with
      | false => rfl
      | true => exact absurd ⟨j, hj, q⟩ h
    · unfold Gd.least
      have e : (Gd.sizes r).find? (Gd.sizeOk r) = none := by
        rw [List.find?_eq_none]
        intro x hx
        unfold Gd.sizes at hx
        rw [List.mem_map] at hx
        obtain ⟨j, hj, rfl⟩ := hx
        rw [List.mem_range] at hj
        intro q
        exact h ⟨j, hj, q⟩
      rw [e]
inductive rLeast : List D → D → Prop
  | mk (r : List Int) (b : Nat) (h0 : r ≠ []) (hz : r.length ≤ 20000) (hb : ∀ x ∈ r, Bd b x) (hbz : b ≤ 400000) : rLeast [.lst (dP r)] (.lst (dP (Gd.least r)))
abbrev N_least_loop : List Str := [("loop" : Str), ("many" : Str), ("size" : Str), ("pairs" : Str), ("start" : Str), ("step" : Str)]
theorem sc_least_loop : FnScope N_least_loop [("loop" : Str)] (defScope s_least_loop) := ⟨rfl, rfl, rfl, by decide +kernel, rfl, by decide +kernel, by decide +kernel⟩
theorem ok_least_loop {f : Addr} {fd : FuncData} (F : FunD K "least_loop" "least_loop" (defArgs s_least_loop) (defBody s_least_loop) (defScope s_least_loop) [] [] f fd) (hb : Binds K fd [("loop" : Str)] []) (T : Txt K mg) (h__spread : Fn P w K mg base "_spread" 1 (spD K 2 rSpread)) : FnR P w K mg base CX0 2 f (spD K 1 rLeast) := by
  have B : FnOk P w K mg base CX0 2 f fd [("loop" : Str)] (spD K 1 rLeast) := by
    refine F.ok sc_least_loop (fun vs H Q E h => h.1) (fun cdv A outer s H vs Q E hr h => ?_)
    have hr1 : Room 1 _ := hr.mono (by decide)
    have hu := hr.units
    have hu1 : _ + 1 < cLine := Nat.lt_of_le_of_lt (Nat.add_le_add_left (by decide : 1 ≤ 64) _) hr.units
    have nd := sc_least_loop.nd
    refine ⟨_, PSs.nox (pss_cons (ps_set (i := 1) nd rfl (Or.inl rfl) (pe_callB call_lenA (by rfl) T.b_len (by decide +kernel) (pa_cons (pv 0) pa_nil)))
      (pss_cons (ps_for PassesOwn.never rfl (pi_range2 rfl T.b_range (pa_cons pe_int (pa_cons (pe_op op_add (pe_op op_fdivW (pv 1) pe_int) pe_int) pa_nil))) (pg_name (i := 2) nd rfl (Or.inl rfl)) (pss_one (ps_if (pt_cmpR op_eq (pe_op op_mod (pv 1) (pv 2)) pe_int (nomark _)) (pss_cons (ps_set (i := 3) nd rfl (Or.inl rfl) (pe_fn h__spread hr1 rfl (pa_cons (pv 0) (pa_cons (pv 2) pa_nil))))
          (pss_one (ps_if (pt_cmpR op_notN (pv 3) pe_non (nomark _)) (pss_one (ps_ret (pv 3))) pss_nil))) pss_nil)))
      (pss_one (ps_ret (pe_lc (own := [(("start" : Str), 4), (("step" : Str), 5)]) rfl nd (pi_seq (pv 0)) (blkOk_by (N := N_least_loop) (sc := defScope s_least_loop) (by decide +kernel)) (fun _ _ _ _ _ => (show PG _ _ (gTup K 2 _) from (pg_tup rfl (pgs_cons (pg_name (i := 4) nd rfl (Or.inl rfl)) (pgs_cons (pg_name (i := 5) nd rfl (Or.inl rfl)) pgs_nil))))) (fun _ _ _ _ _ => pts_nil) (fun _ _ _ _ _ => (pe_tup (pa_cons (pv 4) (pa_cons (pv 5) pa_nil))))))))), enter h (by decide) ?_⟩
    rintro _ _ ⟨r, b, h0, hz, hb, hbz⟩ _
    left
    have hp : 0 < r.length := List.length_pos_iff.mpr h0
    show ExD K _ [.fr (.lst (dP r)), .un, .un, .un, .un, .un] _
    walk_at "clean"
    walk_at "set"
    rw [List.length_map]
    have ev0 : EvI K (iRng2 (tCons (tC (V.int 1)) (tCons (tOp (rI0 fun i j => V.int (i + j)) (tOp (rI CDivW fun i j => V.int (i / j)) (tVar 1) (tC (V.int 2))) (tC (V.int 1))) tNil))) [.fr (.lst (dP r)), .fr (.int r.length), .un, .un, .un, .un] ((List.range (r.length / 2)).map fun i => D.int (1 + (i : Nat))) [.fr (.lst (dP r)), .fr (.int r.length), .un, .un, .un, .un] := by
      have h := ei_range2 (K := K) (Δ := [.fr (.lst (dP r)), .fr (.int r.length), .un, .un, .un, .un]) (lo := 1) (hi := (r.length : Int) / 2 + 1) (ea_cons ev_int (ea_cons (ev_add (ev_fdiv (ev_var (i := 1) rfl) ev_int (Bd.cd Bd.i2 (by omega) (by omega))) ev_int) ea_nil)) (by omega)
      have e : ((r.length : Int) / 2 + 1 - 1).toNat = r.length / 2 := by omega
      rw [e] at h
      exact h
    -- a size that does not fit
    have turn_no : ∀ (j : Nat) (d : D), j < r.length / 2 → Gd.sizeOk r (j + 1) = false → ((List.range (r.length / 2)).map fun i => D.int (1 + (i : Nat)))[j]? = some d → ∃ Δ', AsD K (gName 2) [.fr (.lst (dP r)), .fr (.int r.length), .un, .un, .un, .un] d Δ' ∧ TurnD K (tIfS (tTest (tOp rEq (tOp (rI (fun _ j => 0 < j) fun i j => V.int (i % j)) (tVar 1) (tVar 2)) (tC (V.int 0)))) (tSeq (tAsg (tCall (spD K 2 rSpread) [] E0 (tCons (tVar 0) (tCons (tVar 2) tNil))) (gName 3)) (tIfS (tTest (tOp (fun x y H Q => y = .non ∧ Q (.bl (!decide (x = .non))) H) (tVar 3) (tC .non))) (tRet (tVar 3)) tNext)) tNext) Δ' [.fr (.lst (dP r)), .fr (.int r.length), .un, .un, .un, .un] := by
      intro j d hj hno hd
      obtain ⟨hj, rfl⟩ := range_get hd
      by_cases hm : r.length % (j + 1) = 0
      · have hper : ¬ Gd.Per r (j + 1) := fun hper => by
          unfold Gd.sizeOk at hno
          rw [decide_eq_true hm, decide_eq_true hper] at hno
          cases hno
        obtain ⟨k, hk⟩ := Nat.dvd_of_mod_eq_zero hm
        have hk2 : 2 ≤ k := by
          rcases Nat.lt_or_ge k 2 with h | h
          · have : k = 0 ∨ k = 1 := by omega
            rcases this with e | e
            · subst e; rw [Nat.mul_zero] at hk; omega
            · subst e; rw [Nat.mul_one] at hk; omega
          · exact h
        have hs : rSpread [.lst (dP r), .int (1 + (j : Int))] .non := by
          have e : (1 + (j : Int)) = ((j + 1 : Nat) : Int) := by omega
          rw [e]
          exact .no r (j + 1) k b (by omega) hk hk2 hz hb hbz hper
        refine ⟨_, as_name, .inl ?_⟩
        with_reducible apply x_toF2 (i := 2) (j := 3)
        · dsimp only [List.set]
          with_reducible apply x_if_t
          · with_reducible apply et_is
            · walk_at "ev"
              omega
            · have e : (r.length : Int) % (1 + (j : Int)) = ((r.length % (j + 1) : Nat) : Int) := by
                rw [Int.natCast_emod]; congr 1; omega
              rw [e, hm]; rfl
          · with_reducible apply xs_set (d := .non)
            · walk_at "ev"
              exact hs
            · dsimp only [List.set]
              with_reducible apply x_if_f
              · with_reducible apply et_is
                · walk_at "ev"
                · rfl
              · exact x_next
        · rfl
      · refine ⟨_, as_name, .inl ?_⟩
        with_reducible apply x_toF (i := 2)
        · dsimp only [List.set]
          with_reducible apply x_if_f
          · with_reducible apply et_is
            · walk_at "ev"
              omega
            · have e : (r.length : Int) % (1 + (j : Int)) = ((r.length % (j + 1) : Nat) : Int) := by
                rw [Int.natCast_emod]; congr 1; omega
              rw [e]
              apply decide_eq_false
              omega
          · exact x_next
        · rfl
    rcases least_find (r := r) with ⟨i, hi, hok, hfirst, hle⟩ | ⟨hall, hle⟩
    · rw [hle]
      refine x_seq_rt (x_forC (k := i) ev0 (fun _ => [.fr (.lst (dP r)), .fr (.int r.length), .un, .un, .un, .un]) rfl (by simp; omega) (fun j d hj hd => turn_no j d (by omega) (hfirst j hj) hd) (.inr ⟨.int (1 + (i : Nat)), [.fr (.lst (dP r)), .fr (.int r.length), .fr (.int (1 + (i : Nat))), .un, .un, .un], ?_, as_name, .inl ⟨_, rfl, ?_⟩⟩))
      · rw [List.getElem?_map, List.getElem?_range (by omega)]; rfl
      · unfold Gd.sizeOk at hok
        rw [Bool.and_eq_true] at hok
        have hm := of_decide_eq_true hok.1
        have hper := of_decide_eq_true hok.2
        obtain ⟨k, hk⟩ := Nat.dvd_of_mod_eq_zero hm
        have hk2 : 2 ≤ k := by
          rcases Nat.lt_or_ge k 2 with h | h
          · have : k = 0 ∨ k = 1 := by omega
            rcases this with e | e
            · subst e; rw [Nat.mul_zero] at hk; omega
            · subst e; rw [Nat.mul_one] at hk; omega
          · exact h
        have hs : rSpread [.lst (dP r), .int (1 + (i : Int))] (.lst (dP (r.take (i + 1)))) := by
          have e : (1 + (i : Int)) = ((i + 1 : Nat) : Int) := by omega
          rw [e]
          exact .yes r (i + 1) k b (by omega) hk hk2 hz hb hbz hper
        with_reducible apply x_if_t
        · with_reducible apply et_is
          · walk_at "ev"
            omega
          · have e : (r.length : Int) % (1 + (i : Int)) = ((r.length % (i + 1) : Nat) : Int) := by
              rw [Int.natCast_emod]; congr 1; omega
            rw [e, hm]; rfl
        · with_reducible apply xs_set (d := .lst (dP (r.take (i + 1))))
          · walk_at "ev"
            exact hs
          · dsimp only [List.set]
            with_reducible apply x_if_t
            · with_reducible apply et_is
              · walk_at "ev"
              · rfl
            · walk_at "ret"
    · rw [hle]
      refine x_seq (x_for ev0 (fun _ => [.fr (.lst (dP r)), .fr (.int r.length), .un, .un, .un, .un]) rfl (fun j d hj hd => turn_no j d (by simpa using hj) (hall j (by simpa using hj)) hd)) ?_
      with_reducible apply x_ret
      with_reducible apply ev_l
      with_reducible apply el_is
      · refine el_lcA (Δ0 := [.fr (.lst (dP r)), .fr (.int r.length), .un, .un, .un, .un]) (fun i => dPr (r.getD i 0)) (ei_seq (ev_var rfl) rfl) (gn_tup (gn_cons gm_name (gn_name (by decide)) (gm_cons gm_name gm_nil) (gn_cons gm_name (gn_name (by decide)) gm_nil gn_nil))) (gm_tup (gm_cons gm_name (gm_cons gm_name gm_nil))) (hnoB rfl) (by simp; omega) ?_
        intro i d hd
        obtain ⟨t, ht, rfl⟩ := dP_get hd
        have e : r.getD i 0 = t := by rw [List.getD_eq_getElem?_getD, ht]; rfl
        rw [e]
        refine ⟨[.fr (.lst (dP r)), .fr (.int r.length), .un, .un, .fr (.int t), .fr (.int 0)], as_tup (as_cons as_name (as_cons as_name as_nil)) rfl, rfl, ?_⟩
        walk_at "ev"
      · rw [List.length_map]
        apply List.ext_getElem
        · simp
        · intro i h1 h2
          simp only [List.length_map, List.length_range] at h1
          simp [List.getD_eq_getElem?_getD, h1]
  exact (B.raw hb .nil).imp fun vs H Q E h => by rw [List.append_nil]; exact h
end
end Gw


set_option Elab.async false
set_option linter.all false
set_option maxRecDepth 100000
set_option maxHeartbeats 4000000
namespace Gw
open PySem PySem.Spec PyProof.Rows L2 DL
local macro_rules | `(tactic| walk_at "bd") => `(tactic| first
  | assumption
  | exact Bd.i0 | exact Bd.i1 | exact Bd.i2 | exact Bd.i4 | exact Bd.m2 | exact Bd.m1
  | ((with_reducible apply BdT.a) <;> assumption) | ((with_reducible apply BdT.b) <;> assumption) | ((with_reducible apply BdT.c) <;> assumption) | ((with_reducible apply BdT.d) <;> assumption)
  | ((with_reducible apply Bd.mul) <;> walk_at "bd")
  | ((with_reducible apply Bd.add) <;> walk_at "bd")
  | ((with_reducible apply Bd.sub) <;> walk_at "bd")
  | ((with_reducible apply Bd.neg) <;> walk_at "bd"))
local macro_rules | `(tactic| walk_at "ev") => `(tactic| first
  | ((with_reducible show ExD _ _ _ _); try dsimp only [List.set])
  | with_reducible exact ev_int | with_reducible exact ev_non | with_reducible exact ev_bl | with_reducible exact ev_str
  | ((with_reducible apply ev_var); exact rfl)
  | with_reducible exact ea_nil
  | ((with_reducible apply ea_cons) <;> walk_at "ev")
  | ((with_reducible apply ev_add) <;> walk_at "ev")
  | ((with_reducible apply ev_sub) <;> walk_at "ev")
  | ((with_reducible apply ev_mul) <;> walk_at "ev")
  | ((with_reducible apply ev_fdiv) <;> walk_at "ev")
  | ((with_reducible apply ev_mod) <;> walk_at "ev")
  | ((with_reducible apply ev_lt) <;> walk_at "ev")
  | ((with_reducible apply ev_le) <;> walk_at "ev")
  | ((with_reducible apply ev_gt) <;> walk_at "ev")
  | ((with_reducible apply ev_ge) <;> walk_at "ev")
  | ((with_reducible apply ev_eqS (tb := tC (V.str _)) (hb := ev_str)) <;> walk_at "ev")
  | ((with_reducible apply ev_neS (tb := tC (V.str _)) (hb := ev_str)) <;> walk_at "ev")
  | ((with_reducible apply ev_eqI) <;> walk_at "ev")
  | ((with_reducible apply ev_neI) <;> walk_at "ev")
  | ((with_reducible apply ev_neg) <;> walk_at "ev")
  | ((with_reducible apply ev_gcd) <;> walk_at "ev")
  | ((with_reducible apply ev_fld) <;> walk_at "ev")
  | ((with_reducible apply et_test) <;> walk_at "ev")
  | ((with_reducible apply et_B) <;> walk_at "ev")
  | ((with_reducible apply et_not) <;> walk_at "ev")
  | ((with_reducible apply ev_tup) <;> walk_at "ev")
  | ((with_reducible apply ev_make') <;> walk_at "ev")
  | ((with_reducible apply ev_call') <;> walk_at "ev")
  | ((with_reducible apply ev_meth') <;> walk_at "ev")
  | ((with_reducible show List.length _ = _); exact rfl)
  | ((with_reducible show List.length _ + 1 = _); exact rfl)
  | ((with_reducible show List.lookup _ _ = _); exact rfl)
  | ((with_reducible apply et_or') <;> walk_at "ev")
  | ((with_reducible apply et_and') <;> walk_at "ev")
  | ((with_reducible apply ev_own2) <;> walk_at "ev")
  | ((with_reducible apply ev_own1) <;> walk_at "ev")
  | ((with_reducible apply ev_st) <;> walk_at "ev")
  | ((with_reducible apply ev_abs) <;> walk_at "ev")
  | ((with_reducible apply ev_max2) <;> walk_at "ev")
  | ((with_reducible apply ev_divmod) <;> walk_at "ev")
  | ((with_reducible apply ev_intI) <;> walk_at "ev")
  | ((with_reducible apply ev_isN) <;> walk_at "ev")
  | ((with_reducible apply ev_notN) <;> walk_at "ev")
  | ((with_reducible apply ev_eqS) <;> walk_at "ev")
  | ((with_reducible apply ev_neS) <;> walk_at "ev")
  | ((with_reducible apply ev_lenO); exact rfl)
  | ((with_reducible apply ev_len) <;> walk_at "ev")
  | ((with_reducible show D.items _ = _); first | assumption | exact rfl)
  | ((with_reducible show rTableI _ _ _); exact ⟨rfl, rfl⟩)
  | ((with_reducible show _ = false); first | rfl | (simp; done) | (simp; omega))
  | ((with_reducible show _ = true); first | rfl | (simp; done) | (simp; omega))
  | ((with_reducible show 2 = _); exact rfl)
  | ((with_reducible show 1 = _); exact rfl)
  | exact Txt.clTable ‹_› | exact Txt.clFrac ‹_› | exact Txt.clRow ‹_› | exact Txt.clRoot ‹_›
  | exact Txt.nTable_a ‹_› | exact Txt.nTable_b ‹_› | exact Txt.nTable_c ‹_› | exact Txt.nTable_d ‹_› | exact Txt.nFrac_top ‹_› | exact Txt.nFrac_bottom ‹_›
  | exact Txt.nRow_head ‹_› | exact Txt.nRow_loop ‹_› | exact Txt.nRow_kind ‹_› | exact Txt.nRoot_a ‹_› | exact Txt.nRoot_b ‹_› | exact Txt.nRoot_c ‹_› | exact Txt.nRoot_disc ‹_›
  | ((with_reducible apply Bd.cm) <;> first | walk_at "bd" | omega)
  | ((with_reducible show _ ≤ _); simp only [List.length_cons, List.length_nil]; omega)
  | ((with_reducible intro _); walk_at "ev")
  | skip)
local macro_rules | `(tactic| walk_at "set") => `(tactic| ((with_reducible apply xs_set) <;> walk_at "ev"))
local macro_rules | `(tactic| walk_at "ret") => `(tactic| ((with_reducible apply x_ret) <;> walk_at "ev"))
local macro_rules | `(tactic| walk_at "as4") => `(tactic| ((with_reducible (first | apply xs_as4 | apply xl_as4)) <;> walk_at "ev"))
local macro_rules | `(tactic| walk_at "as3") => `(tactic| ((with_reducible (first | apply xs_as3 | apply xl_as3)) <;> walk_at "ev"))
local macro_rules | `(tactic| walk_at "as2") => `(tactic| ((with_reducible (first | apply xs_as2 | apply xl_as2)) <;> walk_at "ev"))
local macro_rules | `(tactic| walk_at "par") => `(tactic| ((with_reducible (first | apply xs_par | apply x_par)) <;> walk_at "ev"))
local macro_rules | `(tactic| walk_at "fld") => `(tactic| ((with_reducible (first | apply xs_fld | apply x_fld)) <;> first | exact rfl | decide | walk_at "ev"))
local macro_rules | `(tactic| walk_at "guard") => `(tactic| ((with_reducible apply xs_guard) <;> walk_at "ev"))
local macro_rules | `(tactic| walk_at "skip") => `(tactic| ((with_reducible apply xs_skip) <;> walk_at "ev"))
local macro_rules | `(tactic| walk_at "take") => `(tactic| ((with_reducible apply xs_take) <;> walk_at "ev"))
local macro_rules | `(tactic| walk_at "clean") => `(tactic| try simp only [cxK, cxK', asnL, List.length_cons, List.length_nil, Nat.zero_add, Nat.reduceAdd])
section
variable {P : Program} {w : World} {K : Frag} {mg : Str → Option Value} {base : Heap}
inductive rOneForm : List D → D → Prop
  | mk (h l : List Int) (b : Nat) (h0 : h ≠ []) (l0 : l ≠ []) (hz : h.length ≤ 20000) (lz : l.length ≤ 20000) (hb : ∀ x ∈ l, Bd b x) (hbz : b ≤ 400000) : rOneForm [.lst (dI h), .lst (dP l)] (.tup [.tup (dI (Gd.front h l)), .tup (dP (Gd.ring h l))])
abbrev N_one_form : List Str := [("head" : Str), ("loop" : Str), ("pairs" : Str), ("last" : Str), ("back" : Str)]
theorem sc_one_form : FnScope N_one_form [("head" : Str), ("loop" : Str)] (defScope s_one_form) := ⟨rfl, rfl, rfl, by decide +kernel, rfl, by decide +kernel, by decide +kernel⟩
theorem ok_one_form {f : Addr} {fd : FuncData} (F : FunD K "one_form" "one_form" (defArgs s_one_form) (defBody s_one_form) (defScope s_one_form) [] [] f fd) (hb : Binds K fd [("head" : Str), ("loop" : Str)] []) (T : Txt K mg) (h_least_loop : Fn P w K mg base "least_loop" 2 (spD K 1 rLeast)) (h_turn_of_loop : Fn P w K mg base "turn_of_loop" 1 (spD K 2 rTurnOf)) (h_loop_from : Fn P w K mg base "loop_from" 2 (spD K 2 rLoopFrom)) : FnR P w K mg base CX0 3 f (spD K 2 rOneForm) := by
  have B : FnOk P w K mg base CX0 3 f fd [("head" : Str), ("loop" : Str)] (spD K 2 rOneForm) := by
    refine F.ok sc_one_form (fun vs H Q E h => h.1) (fun cdv A outer s H vs Q E hr h => ?_)
    have hr1 : Room 1 _ := hr.mono (by decide)
    have hr2 : Room 2 _ := hr.mono (by decide)
    have hu := hr.units
    have hu1 : _ + 1 < cLine := Nat.lt_of_le_of_lt (Nat.add_le_add_left (by decide : 1 ≤ 64) _) hr.units
    have nd := sc_one_form.nd
    refine ⟨_, PSs.nox (pss_cons (ps_if (pt_cmpR op_eq (pe_callB call_lenA (by rfl) T.b_len (by decide +kernel) (pa_cons (pv 1) pa_nil)) pe_int (nomark _)) (pss_cons (ps_if (PW.pt (pw_and (pt_cmpR op_gt (pe_callB call_lenA (by rfl) T.b_len (by decide +kernel) (pa_cons (pv 0) pa_nil)) pe_int (nomark _)) (pw_and1 (pt_cmpR op_eq (pe_ix (show IxR _ (rIx K) from ix_seq) (pv 0) (pe_un un_neg pe_int) (fun _ _ => rfl)) pe_int (nomark _))))) (pss_one (ps_ret (pe_tup (pa_cons (pe_op op_catA (pe_callTy call_tupA (by rfl) T.b_tuple (by decide +kernel) (pa_cons (pe_slice sl_any (pv 0) po_none (po_some (pe_un un_neg pe_int))) pa_nil)) (pe_tup (pa_cons (pe_op op_add (pe_ix (show IxR _ (rIx K) from ix_seq) (pv 0) (pe_un un_neg pe_int) (fun _ _ => rfl)) pe_int) pa_nil))) (pa_cons (pe_tup pa_nil) pa_nil))))) pss_nil)
        (pss_one (ps_ret (pe_tup (pa_cons (pe_callTy call_tupA (by rfl) T.b_tuple (by decide +kernel) (pa_cons (pv 0) pa_nil)) (pa_cons (pe_tup pa_nil) pa_nil)))))) pss_nil)
      (pss_cons (ps_set (i := 2) nd rfl (Or.inl rfl) (pe_fn h_least_loop hr2 rfl (pa_cons (pv 1) pa_nil)))
      (pss_cons (ps_set (i := 3) nd rfl (Or.inl rfl) (pe_op op_sub (pe_callB call_lenA (by rfl) T.b_len (by decide +kernel) (pa_cons (pv 0) pa_nil)) pe_int))
      (pss_cons (ps_set (i := 4) nd rfl (Or.inl rfl) pe_int)
      (pss_cons (ps_while PassesOwn.never (PW.pt (pw_and (pt_cmpR op_lt (pv 4) (pv 3) (nomark _)) (pw_and1 (pt_cmpR op_eq (pe_ix (show IxR _ (rIx K) from ix_seq) (pv 0) (pe_op op_sub (pv 3) (pv 4)) (fun _ _ => rfl)) (pe_fn h_turn_of_loop hr1 rfl (pa_cons (pv 2) (pa_cons (pe_op op_sub (pe_un un_neg pe_int) (pv 4)) pa_nil))) (nomark _))))) (pss_one (ps_aug (i := 4) nd rfl (Or.inl rfl) pe_int ip_add)))
      (pss_one (ps_ret (pe_tup (pa_cons (pe_callTy call_tupA (by rfl) T.b_tuple (by decide +kernel) (pa_cons (pe_slice sl_any (pv 0) po_none (po_some (pe_op op_sub (pe_callB call_lenA (by rfl) T.b_len (by decide +kernel) (pa_cons (pv 0) pa_nil)) (pv 4)))) pa_nil)) (pa_cons (pe_fn h_loop_from hr2 rfl (pa_cons (pv 2) (pa_cons (pe_un un_neg (pv 4)) pa_nil))) pa_nil)))))))))), enter h (by decide) ?_⟩
    rintro _ _ ⟨h, l, b, h0, l0, hz, lz, hb, hbz⟩ _
    left
    show ExD K _ [.fr (.lst (dI h)), .fr (.lst (dP l)), .un, .un, .un] _
    walk_at "clean"
    have hp : 0 < h.length := List.length_pos_iff.mpr h0
    have lp : 0 < l.length := List.length_pos_iff.mpr l0
    obtain ⟨p1, p2⟩ := Gd.least_prim l0
    have pl : (Gd.least l).length ≤ 20000 := by
      unfold Gd.least
      split
      · simp; omega
      · exact lz
    have bl := Gd.back_le h (Gd.least l)
    with_reducible apply xs_skip
    · walk_at "ev"
    · rw [List.length_map]; simp; exact l0
    · with_reducible apply xs_set
      · walk_at "ev"
        exact .mk l b l0 lz hb hbz
      · dsimp only [List.set]
        with_reducible apply xs_set (d := .int ((h.length - 1 : Nat) : Int))
        · with_reducible apply ev_is
          · walk_at "ev"
          · rw [List.length_map]; congr 1; omega
        · dsimp only [List.set]
          with_reducible apply xs_set (d := .int ((0 : Nat) : Int))
          · exact ev_int
          · dsimp only [List.set]
            have go : ∀ i, i < Gd.back h (Gd.least l) → h.getD (h.length - 1 - i) 0 = Gd.rt (Gd.least l) (-1 - (i : Int)) := fun i hi => Gd.backN_go h (Gd.least l) _ 0 i (Nat.zero_le _) hi
            refine xs_while (n := Gd.back h (Gd.least l)) (fun i => [.fr (.lst (dI h)), .fr (.lst (dP l)), .fr (.lst (dP (Gd.least l))), .fr (.int ((h.length - 1 : Nat) : Int)), .fr (.int (i : Nat))]) rfl ?_ ?_ ?_
            · intro i hi
              have bi := Gd.back_le h (Gd.least l)
              have hR : rTurnOf [.lst (dP (Gd.least l)), .int (-1 - (i : Int))] (.int (Gd.rt (Gd.least l) (-1 - (i : Int)))) := .mk _ _ _ rfl p2 (by omega) (bd_small (by omega))
              refine ⟨?_, ?_⟩
              · with_reducible apply et_is
                · with_reducible apply et_and'
                  · walk_at "ev"
                  · intro _
                    with_reducible apply et_test
                    with_reducible apply ev_eqI (i := h.getD (h.length - 1 - i) 0)
                    · with_reducible apply ev_ix
                      · walk_at "ev"
                      · walk_at "ev"
                      · rfl
                      · have e : ((h.length - 1 : Nat) : Int) - (i : Int) = ((h.length - 1 - i : Nat) : Int) := by omega
                        rw [e]
                        exact dI_nat (by omega)
                    · with_reducible apply ev_call'
                      · exact ea_cons (ev_var rfl) (ea_cons (ev_sub (ev_neg (i := 1) ev_int) (ev_var rfl)) ea_nil)
                      · rfl
                      · exact hR
                · rw [go i hi]
                  simp; omega
              · exact x_to (x_aug (i := 4) (a := (i : Int)) (b := 1) rfl ev_int) rfl
            · have stop := Gd.backN_stop h (Gd.least l) (h.length - 1) 0
              have hR : rTurnOf [.lst (dP (Gd.least l)), .int (-1 - (Gd.back h (Gd.least l) : Int))] (.int (Gd.rt (Gd.least l) (-1 - (Gd.back h (Gd.least l) : Int)))) := .mk _ _ _ rfl p2 (by omega) (bd_small (by omega))
              with_reducible apply et_is
              · with_reducible apply et_and'
                · walk_at "ev"
                · intro _
                  with_reducible apply et_test
                  with_reducible apply ev_eqI (i := h.getD (h.length - 1 - Gd.back h (Gd.least l)) 0)
                  · with_reducible apply ev_ix
                    · walk_at "ev"
                    · walk_at "ev"
                    · rfl
                    · have e : ((h.length - 1 : Nat) : Int) - (Gd.back h (Gd.least l) : Int) = ((h.length - 1 - Gd.back h (Gd.least l) : Nat) : Int) := by omega
                      rw [e]
                      exact dI_nat (by omega)
                  · with_reducible apply ev_call'
                    · exact ea_cons (ev_var rfl) (ea_cons (ev_sub (ev_neg (i := 1) ev_int) (ev_var rfl)) ea_nil)
                    · rfl
                    · exact hR
              · rcases stop with hs | hs
                · have : Gd.back h (Gd.least l) = h.length - 1 := by unfold Gd.back; omega
                  rw [decide_eq_false (by omega)]; rfl
                · have hs' : h.getD (h.length - 1 - Gd.back h (Gd.least l)) 0 ≠ Gd.rt (Gd.least l) (-1 - (Gd.back h (Gd.least l) : Int)) := hs
                  rw [decide_eq_false hs', Bool.and_false]
            · with_reducible apply x_ret
              with_reducible apply ev_tup
              · with_reducible apply ea_cons (d := .tup (dI (Gd.front h l)))
                · with_reducible apply ev_tupleL
                  with_reducible apply ev_l
                  with_reducible apply el_is
                  · with_reducible apply el_sl
                    · walk_at "ev"
                    · exact eo_none
                    · with_reducible apply eo_some
                      walk_at "ev"
                  · unfold Gd.front
                    have e : (((dI h).length : Nat) : Int) - (Gd.back h (Gd.least l) : Int) = ((h.length - Gd.back h (Gd.least l) : Nat) : Int) := by
                      rw [List.length_map]; omega
                    rw [e, cutD_take (by rw [List.length_map]; omega), dI, dI, List.map_take]
                · walk_at "ev"
                  exact .mk _ _ _ rfl p2 (by omega) (by omega)
              · simp
  exact (B.raw hb .nil).imp fun vs H Q E h => by rw [List.append_nil]; exact h
inductive rKind : List D → D → Prop
  | mk (x : D) (r : List Int) (hx : x.items = some (dP r)) (h0 : r ≠ []) (hz : r.length ≤ 20000) : rKind [x] (.str ("looped" : Str))
abbrev N_kind_of : List Str := [("loop" : Str), ("_" : Str), ("step" : Str)]
theorem sc_kind_of : FnScope N_kind_of [("loop" : Str)] (defScope s_kind_of) := ⟨rfl, rfl, rfl, by decide +kernel, rfl, by decide +kernel, by decide +kernel⟩
theorem ok_kind_of {f : Addr} {fd : FuncData} (F : FunD K "kind_of" "kind_of" (defArgs s_kind_of) (defBody s_kind_of) (defScope s_kind_of) [] [] f fd) (hb : Binds K fd [("loop" : Str)] []) (T : Txt K mg) : FnR P w K mg base CX0 1 f (spD K 1 rKind) := by
  have B : FnOk P w K mg base CX0 1 f fd [("loop" : Str)] (spD K 1 rKind) := by
    refine F.ok sc_kind_of (fun vs H Q E h => h.1) (fun cdv A outer s H vs Q E hr h => ?_)
    have hu := hr.units
    have hu1 : _ + 1 < cLine := Nat.lt_of_le_of_lt (Nat.add_le_add_left (by decide : 1 ≤ 64) _) hr.units
    have nd := sc_kind_of.nd
    refine ⟨_, PSs.nox (pss_cons (ps_if (pt_cmpR op_eq (pe_callB call_lenA (by rfl) T.b_len (by decide +kernel) (pa_cons (pv 0) pa_nil)) pe_int (nomark _)) (pss_one (ps_ret pe_str)) pss_nil)
      (pss_cons (ps_for PassesOwn.never rfl (pi_seq (pv 0)) (pg_tup rfl (pgs_cons (pg_name (i := 1) nd rfl (Or.inl rfl)) (pgs_cons (pg_name (i := 2) nd rfl (Or.inl rfl)) pgs_nil))) (pss_one (ps_if (pt_cmpR op_gt (pv 2) pe_int (nomark _)) (pss_one (ps_ret pe_str)) pss_nil)))
      (pss_one (ps_ret pe_str)))), enter h (by decide) ?_⟩
    rintro _ _ ⟨x, r, hx, h0, hz⟩ _
    left
    show ExD K _ [.fr x, .un, .un] _
    walk_at "clean"
    with_reducible apply xs_skip
    · walk_at "ev"
    · rw [List.length_map]; simp; exact h0
    · refine xs_for (fun _ => [.fr x, .un, .un]) (ei_seq (ev_var rfl) hx) ?_ _ rfl ?_
      · intro i d hd
        obtain ⟨t, ht, rfl⟩ := dP_get hd
        refine ⟨_, as_tup (as_cons as_name (as_cons as_name as_nil)) rfl, ?_⟩
        with_reducible apply x_toF2 (i := 1) (j := 2)
        · dsimp only [List.set]
          with_reducible apply x_if_f
          · with_reducible apply et_is
            · walk_at "ev"
            · rfl
          · exact x_next
        · rfl
      · walk_at "ret"
  exact (B.raw hb .nil).imp fun vs H Q E h => by rw [List.append_nil]; exact h
end
end Gw


set_option Elab.async false
set_option linter.all false
set_option maxRecDepth 100000
set_option maxHeartbeats 4000000
namespace Gw
open PySem PySem.Spec PyProof.Rows L2 DL
local macro_rules | `(tactic| walk_at "bd") => `(tactic| first
  | assumption
  | exact Bd.i0 | exact Bd.i1 | exact Bd.i2 | exact Bd.i4 | exact Bd.m2 | exact Bd.m1
  | ((with_reducible apply BdT.a) <;> assumption) | ((with_reducible apply BdT.b) <;> assumption) | ((with_reducible apply BdT.c) <;> assumption) | ((with_reducible apply BdT.d) <;> assumption)
  | ((with_reducible apply Bd.mul) <;> walk_at "bd")
  | ((with_reducible apply Bd.add) <;> walk_at "bd")
  | ((with_reducible apply Bd.sub) <;> walk_at "bd")
  | ((with_reducible apply Bd.neg) <;> walk_at "bd"))
local macro_rules | `(tactic| walk_at "ev") => `(tactic| first
  | ((with_reducible show ExD _ _ _ _); try dsimp only [List.set])
  | with_reducible exact ev_int | with_reducible exact ev_non | with_reducible exact ev_bl | with_reducible exact ev_str
  | ((with_reducible apply ev_var); exact rfl)
  | with_reducible exact ea_nil
  | ((with_reducible apply ea_cons) <;> walk_at "ev")
  | ((with_reducible apply ev_add) <;> walk_at "ev")
  | ((with_reducible apply ev_sub) <;> walk_at "ev")
  | ((with_reducible apply ev_mul) <;> walk_at "ev")
  | ((with_reducible apply ev_fdiv) <;> walk_at "ev")
  | ((with_reducible apply ev_mod) <;> walk_at "ev")
  | ((with_reducible apply ev_lt) <;> walk_at "ev")
  | ((with_reducible apply ev_le) <;> walk_at "ev")
  | ((with_reducible apply ev_gt) <;> walk_at "ev")
  | ((with_reducible apply ev_ge) <;> walk_at "ev")
  | ((with_reducible apply ev_eqS (tb := tC (V.str _)) (hb := ev_str)) <;> walk_at "ev")
  | ((with_reducible apply ev_neS (tb := tC (V.str _)) (hb := ev_str)) <;> walk_at "ev")
  | ((with_reducible apply ev_eqI) <;> walk_at "ev")
  | ((with_reducible apply ev_neI) <;> walk_at "ev")
  | ((with_reducible apply ev_neg) <;> walk_at "ev")
  | ((with_reducible apply ev_gcd) <;> walk_at "ev")
  | ((with_reducible apply ev_fld) <;> walk_at "ev")
  | ((with_reducible apply et_test) <;> walk_at "ev")
  | ((with_reducible apply et_B) <;> walk_at "ev")
  | ((with_reducible apply et_not) <;> walk_at "ev")
  | ((with_reducible apply ev_tup) <;> walk_at "ev")
  | ((with_reducible apply ev_make') <;> walk_at "ev")
  | ((with_reducible apply ev_call') <;> walk_at "ev")
  | ((with_reducible apply ev_meth') <;> walk_at "ev")
  | ((with_reducible show List.length _ = _); exact rfl)
  | ((with_reducible show List.length _ + 1 = _); exact rfl)
  | ((with_reducible show List.lookup _ _ = _); exact rfl)
  | ((with_reducible apply et_or') <;> walk_at "ev")
  | ((with_reducible apply et_and') <;> walk_at "ev")
  | ((with_reducible apply ev_own2) <;> walk_at "ev")
  | ((with_reducible apply ev_own1) <;> walk_at "ev")
  | ((with_reducible apply ev_st) <;> walk_at "ev")
  | ((with_reducible apply ev_abs) <;> walk_at "ev")
  | ((with_reducible apply ev_max2) <;> walk_at "ev")
  | ((with_reducible apply ev_divmod) <;> walk_at "ev")
  | ((with_reducible apply ev_intI) <;> walk_at "ev")
  | ((with_reducible apply ev_isN) <;> walk_at "ev")
  | ((with_reducible apply ev_notN) <;> walk_at "ev")
  | ((with_reducible apply ev_eqS) <;> walk_at "ev")
  | ((with_reducible apply ev_neS) <;> walk_at "ev")
  | ((with_reducible apply ev_lenO); exact rfl)
  | ((with_reducible apply ev_len) <;> walk_at "ev")
  | ((with_reducible show D.items _ = _); first | assumption | exact rfl)
  | ((with_reducible show rTableI _ _ _); exact ⟨rfl, rfl⟩)
  | ((with_reducible show _ = false); first | rfl | (simp; done) | (simp; omega))
  | ((with_reducible show _ = true); first | rfl | (simp; done) | (simp; omega))
  | ((with_reducible show 2 = _); exact rfl)
  | ((with_reducible show 1 = _); exact rfl)
  | exact Txt.clTable ‹_› | exact Txt.clFrac ‹_› | exact Txt.clRow ‹_› | exact Txt.clRoot ‹_›
  | exact Txt.nTable_a ‹_› | exact Txt.nTable_b ‹_› | exact Txt.nTable_c ‹_› | exact Txt.nTable_d ‹_› | exact Txt.nFrac_top ‹_› | exact Txt.nFrac_bottom ‹_›
  | exact Txt.nRow_head ‹_› | exact Txt.nRow_loop ‹_› | exact Txt.nRow_kind ‹_› | exact Txt.nRoot_a ‹_› | exact Txt.nRoot_b ‹_› | exact Txt.nRoot_c ‹_› | exact Txt.nRoot_disc ‹_›
  | ((with_reducible apply Bd.cm) <;> first | walk_at "bd" | omega)
  | ((with_reducible show _ ≤ _); simp only [List.length_cons, List.length_nil]; omega)
  | ((with_reducible intro _); walk_at "ev")
  | skip)
local macro_rules | `(tactic| walk_at "set") => `(tactic| ((with_reducible apply xs_set) <;> walk_at "ev"))
local macro_rules | `(tactic| walk_at "ret") => `(tactic| ((with_reducible apply x_ret) <;> walk_at "ev"))
local macro_rules | `(tactic| walk_at "as4") => `(tactic| ((with_reducible (first | apply xs_as4 | apply xl_as4)) <;> walk_at "ev"))
local macro_rules | `(tactic| walk_at "as3") => `(tactic| ((with_reducible (first | apply xs_as3 | apply xl_as3)) <;> walk_at "ev"))
local macro_rules | `(tactic| walk_at "as2") => `(tactic| ((with_reducible (first | apply xs_as2 | apply xl_as2)) <;> walk_at "ev"))
local macro_rules | `(tactic| walk_at "par") => `(tactic| ((with_reducible (first | apply xs_par | apply x_par)) <;> walk_at "ev"))
local macro_rules | `(tactic| walk_at "fld") => `(tactic| ((with_reducible (first | apply xs_fld | apply x_fld)) <;> first | exact rfl | decide | walk_at "ev"))
local macro_rules | `(tactic| walk_at "guard") => `(tactic| ((with_reducible apply xs_guard) <;> walk_at "ev"))
local macro_rules | `(tactic| walk_at "skip") => `(tactic| ((with_reducible apply xs_skip) <;> walk_at "ev"))
local macro_rules | `(tactic| walk_at "take") => `(tactic| ((with_reducible apply xs_take) <;> walk_at "ev"))
local macro_rules | `(tactic| walk_at "clean") => `(tactic| try simp only [cxK, cxK', asnL, List.length_cons, List.length_nil, Nat.zero_add, Nat.reduceAdd])
section
variable {P : Program} {w : World} {K : Frag} {mg : Str → Option Value} {base : Heap}
def rRowI : List D → List Str → List D → Prop := fun ds ns xs => ∃ (hd lp : D) (h l : List Int) (b : Nat), ds = [hd, lp] ∧ hd.items = some (dI h) ∧ lp.items = some (dP l) ∧ h ≠ [] ∧ l ≠ [] ∧ Gd.Pos h.tail ∧ Gd.Pos l ∧ h.length ≤ 20000 ∧ l.length ≤ 20000 ∧ (∀ x ∈ l, Bd b x) ∧ b ≤ 400000 ∧ ns = nW ∧ xs = [.tup (dI (Gd.front h l)), .tup (dP (Gd.ring h l)), .str ("looped" : Str)]
abbrev N_Rowd_initd : List Str := [("self" : Str), ("head" : Str), ("loop" : Str), ("place" : Str), ("start" : Str), ("step" : Str), ("pairs" : Str)]
theorem sc_Rowd_initd : FnScope N_Rowd_initd [("self" : Str), ("head" : Str), ("loop" : Str)] (defScope s_Rowd_initd) := ⟨rfl, rfl, rfl, by decide +kernel, rfl, by decide +kernel, by decide +kernel⟩
theorem ok_Rowd_initd {f : Addr} {fd : FuncData} {dvs : List V} (F : FunD K "__init__" "Row.__init__" (defArgs s_Rowd_initd) (defBody s_Rowd_initd) (defScope s_Rowd_initd) dvs [] f fd) (hb : Binds K fd [("self" : Str), ("head" : Str), ("loop" : Str)] []) (T : Txt K mg) (h_one_form : Fn P w K mg base "one_form" 3 (spD K 2 rOneForm)) (h_kind_of : Fn P w K mg base "kind_of" 1 (spD K 1 rKind)) : FnR P w K mg base CX0 4 f (spI K (cRow K) 2 rRowI) := by
  have B : FnOk P w K mg base CX0 4 f fd [("self" : Str), ("head" : Str), ("loop" : Str)] (spI K (cRow K) 2 rRowI) := by
    refine F.ok sc_Rowd_initd (fun vs H Q E h => h.1) (fun cdv A outer s H vs Q E hr h => ?_)
    have hr1 : Room 1 _ := hr.mono (by decide)
    have hr3 : Room 3 _ := hr.mono (by decide)
    have hu := hr.units
    have hu1 : _ + 1 < cLine := Nat.lt_of_le_of_lt (Nat.add_le_add_left (by decide : 1 ≤ 64) _) hr.units
    have nd := sc_Rowd_initd.nd
    refine ⟨_, PSs.nox (pss_cons (ps_if (pt_cmpR op_eq (pe_callB call_lenA (by rfl) T.b_len (by decide +kernel) (pa_cons (pv 1) pa_nil)) pe_int (nomark _)) pss_never pss_nil)
      (pss_cons (ps_for PassesOwn.never rfl (pi_range2 rfl T.b_range (pa_cons pe_int (pa_cons (pe_callB call_lenA (by rfl) T.b_len (by decide +kernel) (pa_cons (pv 1) pa_nil)) pa_nil))) (pg_name (i := 3) nd rfl (Or.inl rfl)) (pss_one (ps_if (pt_cmpR op_lt (pe_ix (show IxR _ (rIx K) from ix_seq) (pv 1) (pv 3) (fun _ _ => rfl)) pe_int (nomark _)) pss_never pss_nil)))
      (pss_cons (ps_for PassesOwn.never rfl (pi_range1 rfl T.b_range (pa_cons (pe_callB call_lenA (by rfl) T.b_len (by decide +kernel) (pa_cons (pv 2) pa_nil)) pa_nil)) (pg_name (i := 3) nd rfl (Or.inl rfl)) (pss_cons (ps_asg (pe_ix (show IxR _ (rIx K) from ix_seq) (pv 2) (pv 3) (fun _ _ => rfl)) (pg_tup rfl (pgs_cons (pg_name (i := 4) nd rfl (Or.inl rfl)) (pgs_cons (pg_name (i := 5) nd rfl (Or.inl rfl)) pgs_nil))))
        (pss_one (ps_if (PW.pt (pw_or (pt_cmpR op_lt (pv 4) pe_int (nomark _)) (pw_or1 (pt_cmpR op_lt (pv 5) pe_int (nomark _))))) pss_never pss_nil))))
      (pss_cons (ps_setLc (i := 6) (own := [(("start" : Str), 4), (("step" : Str), 5)]) rfl nd rfl rfl (sw_true rfl rfl rfl (by decide +kernel)) (pi_seq (pv 2)) (blkOk_by (N := N_Rowd_initd) (sc := defScope s_Rowd_initd) (by decide +kernel)) (fun _ _ _ _ _ => (show PG _ _ (gTup K 2 _) from (pg_tup rfl (pgs_cons (pg_name (i := 4) nd rfl (Or.inl rfl)) (pgs_cons (pg_name (i := 5) nd rfl (Or.inl rfl)) pgs_nil))))) (fun _ _ _ _ _ => pts_nil) (fun _ _ _ _ _ => (pe_tup (pa_cons (pv 4) (pa_cons (pv 5) pa_nil)))))
      (pss_cons (ps_asg (pe_fn h_one_form hr3 rfl (pa_cons (pe_callTy call_listA (by rfl) T.b_list (by decide +kernel) (pa_cons (pv 1) pa_nil)) (pa_cons (pv 6) pa_nil))) (pg_tup rfl (pgs_cons (pg_fld (pv 0)) (pgs_cons (pg_fld (pv 0)) pgs_nil))))
      (pss_one (ps_fld (pv 0) (pe_fn h_kind_of hr1 rfl (pa_cons (pe_fld (pv 0) rfl) pa_nil)) rfl))))))), enterI h (by decide) ?_⟩
    rintro _ _ _ ⟨hd, lp, h, l, b, rfl, hh, hl, h0, l0, ph, pl, hz, lz, hb, hbz, rfl, rfl⟩ _ x
    have hp : 0 < h.length := List.length_pos_iff.mpr h0
    have lpp : 0 < l.length := List.length_pos_iff.mpr l0
    have rl : (Gd.ring h l).length ≤ 20000 := Nat.le_trans Gd.ring_len lz
    have r0 : Gd.ring h l ≠ [] := (Gd.oneF h0 l0).r0
    refine ⟨[.oi x (cRow K) nW [.tup (dI (Gd.front h l)), .tup (dP (Gd.ring h l)), .str ("looped" : Str)], .fr hd, .fr lp, .un, .un, .un, .fr (.lst (dP l))], rfl, ?_⟩
    show ExD K _ [.oi x (cRow K) [] [], .fr hd, .fr lp, .un, .un, .un, .un] _
    walk_at "clean"
    with_reducible apply xs_guard
    · walk_at "ev"
    · rw [List.length_map]; simp; exact h0
    · refine xs_for (ds := (List.range (h.length - 1)).map fun i => D.int (1 + (i : Nat))) (fun _ => [.oi x (cRow K) [] [], .fr hd, .fr lp, .un, .un, .un, .un]) ?_ ?_ _ rfl ?_
      · have hh2 := ei_range2 (K := K) (Δ := [.oi x (cRow K) [] [], .fr hd, .fr lp, .un, .un, .un, .un]) (lo := 1) (hi := (h.length : Int)) (ea_cons ev_int (ea_cons (ev_is (ev_len (ev_var (i := 1) rfl) hh) (by rw [List.length_map])) ea_nil)) (by omega)
        have e : ((h.length : Int) - 1).toNat = h.length - 1 := by omega
        rw [e] at hh2
        exact hh2
      · intro i d hd
        obtain ⟨hi, rfl⟩ := range_get hd
        refine ⟨_, as_name, ?_⟩
        with_reducible apply x_toF (i := 3)
        · dsimp only [List.set]
          with_reducible apply x_guard
          · with_reducible apply et_test
            with_reducible apply ev_lt (i := h.getD (i + 1) 0)
            · with_reducible apply ev_ix
              · walk_at "ev"
              · walk_at "ev"
              · exact hh
              · have e : (1 + (i : Int)) = ((i + 1 : Nat) : Int) := by omega
                rw [e]
                exact dI_nat (by omega)
            · walk_at "ev"
          · have hm : h.getD (i + 1) 0 ∈ h.tail := by
              have hi2 : i < h.tail.length := by rw [List.length_tail]; exact hi
              rw [List.getD_eq_getElem?_getD, List.getElem?_eq_getElem (by omega), Option.getD_some]
              have := List.getElem_mem hi2
              rwa [List.getElem_tail] at this
            have := ph _ hm
            simp only [decide_eq_false_iff_not]; omega
        · rfl
      · refine xs_for (ds := (List.range l.length).map fun i => D.int (i : Nat)) (fun _ => [.oi x (cRow K) [] [], .fr hd, .fr lp, .un, .un, .un, .un]) ?_ ?_ _ rfl ?_
        · exact ei_range1 (n := (l.length : Int)) (ea_cons (ev_is (ev_len (ev_var (i := 2) rfl) hl) (by rw [List.length_map])) ea_nil) (by omega) (by omega)
        · intro i d hd
          obtain ⟨hi, rfl⟩ := range_get hd
          refine ⟨_, as_name, ?_⟩
          have hm := pl _ (by
            have := List.getElem_mem hi
            exact this)
          have ge : l.getD i 0 = l[i] := by rw [List.getD_eq_getElem?_getD, List.getElem?_eq_getElem hi]; rfl
          with_reducible apply x_toF3 (i := 3) (j := 4) (l := 5)
          · dsimp only [List.set]
            with_reducible apply xs_as2 (a := .int (l.getD i 0)) (b := .int 0)
            · with_reducible apply ev_ix
              · walk_at "ev"
              · walk_at "ev"
              · exact hl
              · exact dP_nat hi
            · dsimp only [List.set]
              with_reducible apply x_guard
              · walk_at "ev"
              · rw [ge]; simp; omega
          · rfl
        · with_reducible apply xs_setL (ds := dP l)
          · with_reducible apply el_is
            · refine el_lcA (Δ0 := [.oi x (cRow K) [] [], .fr hd, .fr lp, .un, .un, .un, .un]) (fun i => dPr (l.getD i 0)) (ei_seq (ev_var rfl) hl) (gn_tup (gn_cons gm_name (gn_name (by decide)) (gm_cons gm_name gm_nil) (gn_cons gm_name (gn_name (by decide)) gm_nil gn_nil))) (gm_tup (gm_cons gm_name (gm_cons gm_name gm_nil))) (hnoB rfl) (by simp; omega) ?_
              intro i d hd
              obtain ⟨t, ht, rfl⟩ := dP_get hd
              have e : l.getD i 0 = t := by rw [List.getD_eq_getElem?_getD, ht]; rfl
              rw [e]
              refine ⟨[.oi x (cRow K) [] [], .fr _, .fr lp, .un, .fr (.int t), .fr (.int 0), .un], as_tup (as_cons as_name (as_cons as_name as_nil)) rfl, rfl, ?_⟩
              walk_at "ev"
            · rw [List.length_map]
              apply List.ext_getElem
              · simp
              · intro i h1 h2
                simp only [List.length_map, List.length_range] at h1
                simp [List.getD_eq_getElem?_getD, h1]
          · dsimp only [List.set]
            refine x_freeze (i := 6) rfl ?_
            dsimp only [List.set]
            refine x_seq (x_asg (d := .tup [.tup (dI (Gd.front h l)), .tup (dP (Gd.ring h l))]) (Δ1 := [.oi x (cRow K) [] [], .fr hd, .fr lp, .un, .un, .un, .fr (.lst (dP l))]) (Δ2 := [.oi x (cRow K) ["head", "loop"] [.tup (dI (Gd.front h l)), .tup (dP (Gd.ring h l))], .fr hd, .fr lp, .un, .un, .un, .fr (.lst (dP l))]) ?_ ?_) ?_
            · with_reducible apply ev_call'
              · with_reducible apply ea_cons
                · with_reducible apply ev_l
                  with_reducible apply el_list
                  · walk_at "ev"
                  · exact hh
                · walk_at "ev"
              · rfl
              · exact .mk h l b h0 l0 hz lz hb hbz
            · exact as_tup (as_cons (as_fld (k := 0) rfl T.clRow T.nRow_head (by decide) (by decide)) (as_cons (as_fld (k := 0) rfl T.clRow T.nRow_loop (by decide) (by decide)) as_nil)) rfl
            · with_reducible apply x_to
              · with_reducible apply x_fld
                · with_reducible apply ev_call' (d := .str ("looped" : Str))
                  · with_reducible apply ea_cons
                    · exact ev_fldO (k := 0) rfl T.clRow T.nRow_loop rfl
                    · exact ea_nil
                  · rfl
                  · exact .mk _ _ rfl r0 rl
                · rfl
                · exact T.clRow
                · exact T.nRow_kind
                · decide
                · decide
              · rfl
  exact (B.raw hb .nil).imp fun vs H Q E h => by rw [List.append_nil]; exact h
structure RowOk (f r : List Int) (b : Nat) : Prop where
  f0 : f ≠ []
  r0 : r ≠ []
  fz : f.length ≤ 4000
  rz : r.length ≤ 4000
  fb : ∀ x ∈ f, Bd b x
  rb : ∀ x ∈ r, Bd b x
inductive rRowTurn (K : Frag) : List D → D → Prop
  | mk (f r : List Int) (b n : Nat) (h : RowOk f r b) (hn : n ≤ 10000) : rRowTurn K [dW K f r, .int n] (.int (tin f r n))
abbrev N_Row_turn : List Str := [("self" : Str), ("place" : Str), ("found" : Str)]
theorem sc_Row_turn : FnScope N_Row_turn [("self" : Str), ("place" : Str)] (defScope s_Row_turn) := ⟨rfl, rfl, rfl, by decide +kernel, rfl, by decide +kernel, by decide +kernel⟩
theorem ok_Row_turn {f : Addr} {fd : FuncData} (F : FunD K "turn" "Row.turn" (defArgs s_Row_turn) (defBody s_Row_turn) (defScope s_Row_turn) [] [] f fd) (hb : Binds K fd [("self" : Str), ("place" : Str)] []) (T : Txt K mg) (h_turn_in : Fn P w K mg base "turn_in" 2 (spD K 3 rTurnIn)) : FnR P w K mg base CX0 3 f (spD K 2 (rRowTurn K)) := by
  have B : FnOk P w K mg base CX0 3 f fd [("self" : Str), ("place" : Str)] (spD K 2 (rRowTurn K)) := by
    refine F.ok sc_Row_turn (fun vs H Q E h => h.1) (fun cdv A outer s H vs Q E hr h => ?_)
    have hr2 : Room 2 _ := hr.mono (by decide)
    have hu := hr.units
    have hu1 : _ + 1 < cLine := Nat.lt_of_le_of_lt (Nat.add_le_add_left (by decide : 1 ≤ 64) _) hr.units
    have nd := sc_Row_turn.nd
    refine ⟨_, PSs.nox (pss_cons (ps_if (pt_cmpR op_lt (pv 1) pe_int (nomark _)) pss_never pss_nil)
      (pss_cons (ps_set (i := 2) nd rfl (Or.inl rfl) (pe_fn h_turn_in hr2 rfl (pa_cons (pe_fld (pv 0) rfl) (pa_cons (pe_fld (pv 0) rfl) (pa_cons (pv 1) pa_nil)))))
      (pss_cons (ps_if (pt_cmpR op_isN (pv 2) pe_non (nomark _)) pss_never pss_nil)
      (pss_one (ps_ret (pv 2)))))), enter h (by decide) ?_⟩
    rintro _ _ ⟨f, r, b, n, hO, hn⟩ _
    left
    show ExD K _ [.fr (dW K f r), .fr (.int n), .un] _
    walk_at "clean"
    walk_at "guard"
    with_reducible apply xs_set
    · walk_at "ev"
      exact .mk _ _ f r n rfl rfl hO.r0 (by have := hO.rz; omega) (by have := hO.fz; omega) (by omega)
    · dsimp only [List.set]
      walk_at "guard"
      walk_at "ret"
  exact (B.raw hb .nil).imp fun vs H Q E h => by rw [List.append_nil]; exact h
inductive rRowTurns (K : Frag) : List D → D → Prop
  | mk (f r : List Int) (b n : Nat) (h : RowOk f r b) (hn : n ≤ 5000) : rRowTurns K [dW K f r, .int n] (.lst (dI ((List.range n).map (tin f r))))
abbrev N_Row_turns : List Str := [("self" : Str), ("many" : Str), ("head" : Str), ("_" : Str)]
theorem sc_Row_turns : FnScope N_Row_turns [("self" : Str), ("many" : Str)] (defScope s_Row_turns) := ⟨rfl, rfl, rfl, by decide +kernel, rfl, by decide +kernel, by decide +kernel⟩
theorem ok_Row_turns {f : Addr} {fd : FuncData} (F : FunD K "turns" "Row.turns" (defArgs s_Row_turns) (defBody s_Row_turns) (defScope s_Row_turns) [] [] f fd) (hb : Binds K fd [("self" : Str), ("many" : Str)] []) (T : Txt K mg) (h_unrolled : Fn P w K mg base "unrolled" 3 (spD K 3 rUnrolled)) : FnR P w K mg base CX0 4 f (spD K 2 (rRowTurns K)) := by
  obtain ⟨tk_MOST_TURNS, hg_MOST_TURNS⟩ := T.g_MOST_TURNS
  have B : FnOk P w K mg base CX0 4 f fd [("self" : Str), ("many" : Str)] (spD K 2 (rRowTurns K)) := by
    refine F.ok sc_Row_turns (fun vs H Q E h => h.1) (fun cdv A outer s H vs Q E hr h => ?_)
    have hr3 : Room 3 _ := hr.mono (by decide)
    have hu := hr.units
    have hu1 : _ + 1 < cLine := Nat.lt_of_le_of_lt (Nat.add_le_add_left (by decide : 1 ≤ 64) _) hr.units
    have nd := sc_Row_turns.nd
    refine ⟨_, PSs.nox (pss_cons (ps_if (PW.pt (pw_or (pt_cmpR op_lt (pv 1) pe_int (nomark _)) (pw_or1 (pt_cmpR op_gt (pv 1) (pe_glob (v := .int 5000) rfl hg_MOST_TURNS ⟨_, rfl⟩) (nomark _))))) pss_never pss_nil)
      (pss_cons (ps_asg (pe_fn h_unrolled hr3 rfl (pa_cons (pe_fld (pv 0) rfl) (pa_cons (pe_fld (pv 0) rfl) (pa_cons (pv 1) pa_nil)))) (pg_tup rfl (pgs_cons (pg_name (i := 2) nd rfl (Or.inl rfl)) (pgs_cons (pg_name (i := 3) nd rfl (Or.inl rfl)) pgs_nil))))
      (pss_one (ps_ret (pe_callTy call_listA (by rfl) T.b_list (by decide +kernel) (pa_cons (pe_slice sl_any (pv 2) po_none (po_some (pv 1))) pa_nil)))))), enter h (by decide) ?_⟩
    rintro _ _ ⟨f, r, b, n, hO, hn⟩ _
    left
    show ExD K _ [.fr (dW K f r), .fr (.int n), .un, .un] _
    walk_at "clean"
    with_reducible apply xs_guard
    · walk_at "ev"
    · simp; omega
    · with_reducible apply xs_as2
      · walk_at "ev"
        exact .mk _ _ f r n rfl rfl hO.r0 (by have := hO.rz; omega) (by have := hO.fz; omega) (by omega)
      · dsimp only [List.set]
        with_reducible apply x_ret
        with_reducible apply ev_l
        with_reducible apply el_is
        · with_reducible apply el_list
          · with_reducible apply ev_slT
            · walk_at "ev"
            · exact eo_none
            · with_reducible apply eo_some
              walk_at "ev"
          · rfl
        · rw [cutD_take (by simp; omega), dI, dI, ← List.map_take, ← List.map_take, List.take_range, Nat.min_eq_left (by omega)]
  exact (B.raw hb .nil).imp fun vs H Q E h => by rw [List.append_nil]; exact h
inductive rRowTable (K : Frag) : List D → D → Prop
  | mk (f r : List Int) (b n : Nat) (h : RowOk f r b) (hn : n ≤ 5000) (hm : n * (b + 1) + b ≤ 400000) : rRowTable K [dW K f r, .int n] (dT K (Gd.prod ((List.range n).map (tin f r))))
theorem tin_bd {f r : List Int} {b : Nat} (h : RowOk f r b) (n : Nat) : Bd b (tin f r n) := by
  unfold tin
  split
  · rename_i hn
    exact getD_bd h.fb hn
  · exact h.rb _ (Gd.rt_mem h.r0 _)
abbrev N_Row_table : List Str := [("self" : Str), ("many" : Str), ("turns" : Str)]
theorem sc_Row_table : FnScope N_Row_table [("self" : Str), ("many" : Str)] (defScope s_Row_table) := ⟨rfl, rfl, rfl, by decide +kernel, rfl, by decide +kernel, by decide +kernel⟩
theorem ok_Row_table {f : Addr} {fd : FuncData} (F : FunD K "table" "Row.table" (defArgs s_Row_table) (defBody s_Row_table) (defScope s_Row_table) [] [] f fd) (hb : Binds K fd [("self" : Str), ("many" : Str)] []) (T : Txt K mg) (h_Row_turns : Me P w K mg base (cRow K) "turns" 4 (spD K 2 (rRowTurns K))) (h_turns_table : Fn P w K mg base "turns_table" 3 (spD K 1 (rTurnsTable K))) : FnR P w K mg base CX0 5 f (spD K 2 (rRowTable K)) := by
  obtain ⟨tk_MOST_TURNS, hg_MOST_TURNS⟩ := T.g_MOST_TURNS
  have B : FnOk P w K mg base CX0 5 f fd [("self" : Str), ("many" : Str)] (spD K 2 (rRowTable K)) := by
    refine F.ok sc_Row_table (fun vs H Q E h => h.1) (fun cdv A outer s H vs Q E hr h => ?_)
    have hr3 : Room 3 _ := hr.mono (by decide)
    have hr4 : Room 4 _ := hr.mono (by decide)
    have hu := hr.units
    have hu1 : _ + 1 < cLine := Nat.lt_of_le_of_lt (Nat.add_le_add_left (by decide : 1 ≤ 64) _) hr.units
    have nd := sc_Row_table.nd
    refine ⟨_, PSs.nox (pss_cons (ps_if (PW.pt (pw_or (pt_cmpR op_lt (pv 1) pe_int (nomark _)) (pw_or1 (pt_cmpR op_gt (pv 1) (pe_glob (v := .int 5000) rfl hg_MOST_TURNS ⟨_, rfl⟩) (nomark _))))) pss_never pss_nil)
      (pss_cons (ps_set (i := 2) nd rfl (Or.inl rfl) (pe_me h_Row_turns hr4 T.clRow (pv 0) (pa_cons (pv 1) pa_nil)))
      (pss_cons (ps_if (pt_cmpR op_lt (pe_callB call_lenA (by rfl) T.b_len (by decide +kernel) (pa_cons (pv 2) pa_nil)) (pv 1) (nomark _)) pss_never pss_nil)
      (pss_one (ps_ret (pe_fn h_turns_table hr3 rfl (pa_cons (pv 2) pa_nil))))))), enter h (by decide) ?_⟩
    rintro _ _ ⟨f, r, b, n, hO, hn, hm⟩ _
    left
    show ExD K _ [.fr (dW K f r), .fr (.int n), .un] _
    walk_at "clean"
    with_reducible apply xs_guard
    · walk_at "ev"
    · simp; omega
    · with_reducible apply xs_set
      · walk_at "ev"
        exact .mk f r b n hO hn
      · dsimp only [List.set]
        with_reducible apply xs_guard
        · walk_at "ev"
        · simp
        · with_reducible apply x_ret
          walk_at "ev"
          refine .mk _ _ b rfl ?_ ?_
          · intro t ht
            rw [List.mem_map] at ht
            obtain ⟨i, _, rfl⟩ := ht
            exact tin_bd hO i
          · simp; exact hm
  exact (B.raw hb .nil).imp fun vs H Q E h => by rw [List.append_nil]; exact h
theorem gcd_one {x : Gd.Tb} (h : x.det = 1 ∨ x.det = -1) : Nat.gcd x.a.natAbs x.c.natAbs = 1 := by
  have h1 : (Nat.gcd x.a.natAbs x.c.natAbs : Int) ∣ x.a := Int.dvd_natAbs.mp (Int.natCast_dvd_natCast.mpr (Nat.gcd_dvd_left _ _))
  have h2 : (Nat.gcd x.a.natAbs x.c.natAbs : Int) ∣ x.c := Int.dvd_natAbs.mp (Int.natCast_dvd_natCast.mpr (Nat.gcd_dvd_right _ _))
  have h3 : (Nat.gcd x.a.natAbs x.c.natAbs : Int) ∣ x.det := by
    unfold Gd.Tb.det
    exact Int.dvd_sub (Int.dvd_mul_of_dvd_left h1) (Int.dvd_mul_of_dvd_right h2)
  have h4 : (Nat.gcd x.a.natAbs x.c.natAbs : Int) ∣ 1 := by
    rcases h with h | h
    · rw [h] at h3; exact h3
    · rw [h] at h3; exact Int.dvd_neg.mp h3
  have := Int.natCast_dvd_natCast.mp (show ((Nat.gcd x.a.natAbs x.c.natAbs : Nat) : Int) ∣ ((1 : Nat) : Int) from h4)
  exact Nat.dvd_one.mp this
inductive rConv (K : Frag) : List D → D → Prop
  | mk (f r : List Int) (b n : Nat) (h : RowOk f r b) (ht : Gd.Pos f.tail) (hr : Gd.Pos r) (hn : n < 5000) (hm : (n + 1) * (b + 1) + b ≤ 7000) : rConv K [dW K f r, .int n] (dF K (Gd.prod ((List.range (n + 1)).map (tin f r))).a (Gd.prod ((List.range (n + 1)).map (tin f r))).c)
theorem tin_turns {f r : List Int} (h0 : f ≠ []) (ht : Gd.Pos f.tail) (hr : Gd.Pos r) (r0 : r ≠ []) (n : Nat) : Gd.Turns ((List.range (n + 1)).map (tin f r)) := by
  unfold Gd.Turns
  rw [List.range_succ_eq_map, List.map_cons, List.tail_cons]
  intro t hm
  rw [List.mem_map] at hm
  obtain ⟨i, hi, rfl⟩ := hm
  rw [List.mem_map] at hi
  obtain ⟨j, _, rfl⟩ := hi
  unfold tin
  split
  · rename_i hj
    apply ht
    rw [List.getD_eq_getElem?_getD, List.getElem?_eq_getElem hj, Option.getD_some]
    have hi2 : j < f.tail.length := by rw [List.length_tail]; omega
    have := List.getElem_mem hi2
    rwa [List.getElem_tail] at this
  · exact hr _ (Gd.rt_mem r0 _)
abbrev N_Row_convergent : List Str := [("self" : Str), ("place" : Str), ("table" : Str)]
theorem sc_Row_convergent : FnScope N_Row_convergent [("self" : Str), ("place" : Str)] (defScope s_Row_convergent) := ⟨rfl, rfl, rfl, by decide +kernel, rfl, by decide +kernel, by decide +kernel⟩
theorem ok_Row_convergent {f : Addr} {fd : FuncData} (F : FunD K "convergent" "Row.convergent" (defArgs s_Row_convergent) (defBody s_Row_convergent) (defScope s_Row_convergent) [] [] f fd) (hb : Binds K fd [("self" : Str), ("place" : Str)] []) (T : Txt K mg) (h_Row_turn : Me P w K mg base (cRow K) "turn" 3 (spD K 2 (rRowTurn K))) (h_Row_table : Me P w K mg base (cRow K) "table" 5 (spD K 2 (rRowTable K))) (h_Fracd_initd : Mkr P w K mg base "Frac" (cFrac K) 2 (spI K (cFrac K) 2 rFracI)) : FnR P w K mg base CX0 6 f (spD K 2 (rConv K)) := by
  obtain ⟨tk_MOST_TURNS, hg_MOST_TURNS⟩ := T.g_MOST_TURNS
  have B : FnOk P w K mg base CX0 6 f fd [("self" : Str), ("place" : Str)] (spD K 2 (rConv K)) := by
    refine F.ok sc_Row_convergent (fun vs H Q E h => h.1) (fun cdv A outer s H vs Q E hr h => ?_)
    have hr2 : Room 2 _ := hr.mono (by decide)
    have hr3 : Room 3 _ := hr.mono (by decide)
    have hr5 : Room 5 _ := hr.mono (by decide)
    have hu := hr.units
    have hu1 : _ + 1 < cLine := Nat.lt_of_le_of_lt (Nat.add_le_add_left (by decide : 1 ≤ 64) _) hr.units
    have nd := sc_Row_convergent.nd
    refine ⟨_, PSs.nox (pss_cons (ps_expr (pe_me h_Row_turn hr3 T.clRow (pv 0) (pa_cons (pv 1) pa_nil)))
      (pss_cons (ps_if (pt_cmpR op_ge (pv 1) (pe_glob (v := .int 5000) rfl hg_MOST_TURNS ⟨_, rfl⟩) (nomark _)) pss_never pss_nil)
      (pss_cons (ps_set (i := 2) nd rfl (Or.inl rfl) (pe_me h_Row_table hr5 T.clRow (pv 0) (pa_cons (pe_op op_add (pv 1) pe_int) pa_nil)))
      (pss_one (ps_ret (pe_mkr h_Fracd_initd hr3 rfl (pa_cons (pe_fld (pv 2) rfl) (pa_cons (pe_fld (pv 2) rfl) pa_nil)))))))), enter h (by decide) ?_⟩
    rintro _ _ ⟨f, r, b, n, hO, ht, hr, hn, hm⟩ _
    left
    show ExD K _ [.fr (dW K f r), .fr (.int n), .un] _
    walk_at "clean"
    have hT := tin_turns hO.f0 ht hr hO.r0 n
    have hne : (List.range (n + 1)).map (tin f r) ≠ [] := by simp
    have hc := (Gd.lower_pos hT hne).1
    have hg := gcd_one (Gd.det_prod_or ((List.range (n + 1)).map (tin f r)))
    have hB : BdT (1 + ((List.range (n + 1)).map (tin f r)).length * (b + 1)) (Gd.prod ((List.range (n + 1)).map (tin f r))) := BdT.prod fun t h => by
      rw [List.mem_map] at h
      obtain ⟨i, _, rfl⟩ := h
      exact tin_bd hO i
    rw [List.length_map, List.length_range] at hB
    refine x_seq (x_drop (d := .int (tin f r n)) (Δ1 := [.fr (dW K f r), .fr (.int n), .un]) ?_) ?_
    · walk_at "ev"
      exact .mk f r b n hO (by omega)
    · with_reducible apply xs_guard
      · walk_at "ev"
      · simp; omega
      · with_reducible apply xs_set (d := dT K (Gd.prod ((List.range (n + 1)).map (tin f r))))
        · walk_at "ev"
          exact .mk f r b (n + 1) hO (by omega) (by omega)
        · dsimp only [List.set]
          with_reducible apply x_ret
          walk_at "ev"
          refine ⟨_, _, _, rfl, by omega, hB.c, by omega, rfl, ?_⟩
          rw [hg]
          simp
  exact (B.raw hb .nil).imp fun vs H Q E h => by rw [List.append_nil]; exact h
inductive rFloor (K : Frag) : List D → D → Prop
  | mk (f r : List Int) (h0 : f ≠ []) : rFloor K [dW K f r] (.int (f.getD 0 0))
abbrev N_Row_floor : List Str := [("self" : Str)]
theorem sc_Row_floor : FnScope N_Row_floor [("self" : Str)] (defScope s_Row_floor) := ⟨rfl, rfl, rfl, by decide +kernel, rfl, by decide +kernel, by decide +kernel⟩
theorem ok_Row_floor {f : Addr} {fd : FuncData} (F : FunD K "floor" "Row.floor" (defArgs s_Row_floor) (defBody s_Row_floor) (defScope s_Row_floor) [] [] f fd) (hb : Binds K fd [("self" : Str)] []) (T : Txt K mg) : FnR P w K mg base CX0 1 f (spD K 1 (rFloor K)) := by
  have B : FnOk P w K mg base CX0 1 f fd [("self" : Str)] (spD K 1 (rFloor K)) := by
    refine F.ok sc_Row_floor (fun vs H Q E h => h.1) (fun cdv A outer s H vs Q E hr h => ?_)
    have hu := hr.units
    have hu1 : _ + 1 < cLine := Nat.lt_of_le_of_lt (Nat.add_le_add_left (by decide : 1 ≤ 64) _) hr.units
    have nd := sc_Row_floor.nd
    refine ⟨_, PSs.nox (pss_one (ps_ret (pe_ix (show IxR _ (rIx K) from ix_seq) (pe_fld (pv 0) rfl) pe_int (fun _ _ => rfl)))), enter h (by decide) ?_⟩
    rintro _ _ ⟨f, r, h0⟩ _
    left
    have hp : 0 < f.length := List.length_pos_iff.mpr h0
    show ExD K _ [.fr (dW K f r)] _
    walk_at "clean"
    with_reducible apply x_ret
    with_reducible apply ev_ix
    · walk_at "ev"
    · walk_at "ev"
    · rfl
    · exact dI_nat (i := 0) hp
  exact (B.raw hb .nil).imp fun vs H Q E h => by rw [List.append_nil]; exact h
end
end Gw


set_option Elab.async false
set_option linter.all false
set_option maxRecDepth 100000
set_option maxHeartbeats 4000000
namespace Gw
open PySem PySem.Spec PyProof.Rows L2 DL
local macro_rules | `(tactic| walk_at "bd") => `(tactic| first
  | assumption
  | exact Bd.i0 | exact Bd.i1 | exact Bd.i2 | exact Bd.i4 | exact Bd.m2 | exact Bd.m1
  | ((with_reducible apply BdT.a) <;> assumption) | ((with_reducible apply BdT.b) <;> assumption) | ((with_reducible apply BdT.c) <;> assumption) | ((with_reducible apply BdT.d) <;> assumption)
  | ((with_reducible apply Bd.mul) <;> walk_at "bd")
  | ((with_reducible apply Bd.add) <;> walk_at "bd")
  | ((with_reducible apply Bd.sub) <;> walk_at "bd")
  | ((with_reducible apply Bd.neg) <;> walk_at "bd"))
local macro_rules | `(tactic| walk_at "ev") => `(tactic| first
  | ((with_reducible show ExD _ _ _ _); try dsimp only [List.set])
  | with_reducible exact ev_int | with_reducible exact ev_non | with_reducible exact ev_bl | with_reducible exact ev_str
  | ((with_reducible apply ev_var); exact rfl)
  | with_reducible exact ea_nil
  | ((with_reducible apply ea_cons) <;> walk_at "ev")
  | ((with_reducible apply ev_add) <;> walk_at "ev")
  | ((with_reducible apply ev_sub) <;> walk_at "ev")
  | ((with_reducible apply ev_mul) <;> walk_at "ev")
  | ((with_reducible apply ev_fdiv) <;> walk_at "ev")
  | ((with_reducible apply ev_mod) <;> walk_at "ev")
  | ((with_reducible apply ev_lt) <;> walk_at "ev")
  | ((with_reducible apply ev_le) <;> walk_at "ev")
  | ((with_reducible apply ev_gt) <;> walk_at "ev")
  | ((with_reducible apply ev_ge) <;> walk_at "ev")
  | ((with_reducible apply ev_eqS (tb := tC (V.str _)) (hb := ev_str)) <;> walk_at "ev")
  | ((with_reducible apply ev_neS (tb := tC (V.str _)) (hb := ev_str)) <;> walk_at "ev")
  | ((with_reducible apply ev_eqI) <;> walk_at "ev")
  | ((with_reducible apply ev_neI) <;> walk_at "ev")
  | ((with_reducible apply ev_neg) <;> walk_at "ev")
  | ((with_reducible apply ev_gcd) <;> walk_at "ev")
  | ((with_reducible apply ev_fld) <;> walk_at "ev")
  | ((with_reducible apply et_test) <;> walk_at "ev")
  | ((with_reducible apply et_B) <;> walk_at "ev")
  | ((with_reducible apply et_not) <;> walk_at "ev")
  | ((with_reducible apply ev_tup) <;> walk_at "ev")
  | ((with_reducible apply ev_make') <;> walk_at "ev")
  | ((with_reducible apply ev_call') <;> walk_at "ev")
  | ((with_reducible apply ev_meth') <;> walk_at "ev")
  | ((with_reducible show List.length _ = _); exact rfl)
  | ((with_reducible show List.length _ + 1 = _); exact rfl)
  | ((with_reducible show List.lookup _ _ = _); exact rfl)
  | ((with_reducible apply et_or') <;> walk_at "ev")
  | ((with_reducible apply et_and') <;> walk_at "ev")
  | ((with_reducible apply ev_own2) <;> walk_at "ev")
  | ((with_reducible apply ev_own1) <;> walk_at "ev")
  | ((with_reducible apply ev_st) <;> walk_at "ev")
  | ((with_reducible apply ev_abs) <;> walk_at "ev")
  | ((with_reducible apply ev_max2) <;> walk_at "ev")
  | ((with_reducible apply ev_divmod) <;> walk_at "ev")
  | ((with_reducible apply ev_intI) <;> walk_at "ev")
  | ((with_reducible apply ev_isN) <;> walk_at "ev")
  | ((with_reducible apply ev_notN) <;> walk_at "ev")
  | ((with_reducible apply ev_eqS) <;> walk_at "ev")
  | ((with_reducible apply ev_neS) <;> walk_at "ev")
  | ((with_reducible apply ev_lenO); exact rfl)
  | ((with_reducible apply ev_len) <;> walk_at "ev")
  | ((with_reducible show D.items _ = _); first | assumption | exact rfl)
  | ((with_reducible show rTableI _ _ _); exact ⟨rfl, rfl⟩)
  | ((with_reducible show _ = false); first | rfl | (simp; done) | (simp; omega))
  | ((with_reducible show _ = true); first | rfl | (simp; done) | (simp; omega))
  | ((with_reducible show 2 = _); exact rfl)
  | ((with_reducible show 1 = _); exact rfl)
  | exact Txt.clTable ‹_› | exact Txt.clFrac ‹_› | exact Txt.clRow ‹_› | exact Txt.clRoot ‹_›
  | exact Txt.nTable_a ‹_› | exact Txt.nTable_b ‹_› | exact Txt.nTable_c ‹_› | exact Txt.nTable_d ‹_› | exact Txt.nFrac_top ‹_› | exact Txt.nFrac_bottom ‹_›
  | exact Txt.nRow_head ‹_› | exact Txt.nRow_loop ‹_› | exact Txt.nRow_kind ‹_› | exact Txt.nRoot_a ‹_› | exact Txt.nRoot_b ‹_› | exact Txt.nRoot_c ‹_› | exact Txt.nRoot_disc ‹_›
  | ((with_reducible apply Bd.cm) <;> first | walk_at "bd" | omega)
  | ((with_reducible show _ ≤ _); simp only [List.length_cons, List.length_nil]; omega)
  | ((with_reducible intro _); walk_at "ev")
  | skip)
local macro_rules | `(tactic| walk_at "set") => `(tactic| ((with_reducible apply xs_set) <;> walk_at "ev"))
local macro_rules | `(tactic| walk_at "ret") => `(tactic| ((with_reducible apply x_ret) <;> walk_at "ev"))
local macro_rules | `(tactic| walk_at "as4") => `(tactic| ((with_reducible (first | apply xs_as4 | apply xl_as4)) <;> walk_at "ev"))
local macro_rules | `(tactic| walk_at "as3") => `(tactic| ((with_reducible (first | apply xs_as3 | apply xl_as3)) <;> walk_at "ev"))
local macro_rules | `(tactic| walk_at "as2") => `(tactic| ((with_reducible (first | apply xs_as2 | apply xl_as2)) <;> walk_at "ev"))
local macro_rules | `(tactic| walk_at "par") => `(tactic| ((with_reducible (first | apply xs_par | apply x_par)) <;> walk_at "ev"))
local macro_rules | `(tactic| walk_at "fld") => `(tactic| ((with_reducible (first | apply xs_fld | apply x_fld)) <;> first | exact rfl | decide | walk_at "ev"))
local macro_rules | `(tactic| walk_at "guard") => `(tactic| ((with_reducible apply xs_guard) <;> walk_at "ev"))
local macro_rules | `(tactic| walk_at "skip") => `(tactic| ((with_reducible apply xs_skip) <;> walk_at "ev"))
local macro_rules | `(tactic| walk_at "take") => `(tactic| ((with_reducible apply xs_take) <;> walk_at "ev"))
local macro_rules | `(tactic| walk_at "clean") => `(tactic| try simp only [cxK, cxK', asnL, List.length_cons, List.length_nil, Nat.zero_add, Nat.reduceAdd])
section
variable {P : Program} {w : World} {K : Frag} {mg : Str → Option Value} {base : Heap}
theorem isq_side {D s : Int} (h : Gd.Side D s) : ((Float64.isqrt D.toNat : Nat) : Int) = s := by
  have h0 : 0 ≤ D := by
    have := h.lo
    have h2 := Int.mul_nonneg h.s0 h.s0
    omega
  obtain ⟨a, b⟩ := Float64.isqrt_spec D.toNat
  have eD : ((D.toNat : Nat) : Int) = D := Int.toNat_of_nonneg h0
  generalize Float64.isqrt D.toNat = n at *
  have a' : (n : Int) * n ≤ D := by rw [← eD]; exact_mod_cast a
  have b' : D < ((n : Int) + 1) * (n + 1) := by rw [← eD]; exact_mod_cast b
  have h1 := h.lo; have h2 := h.hi; have h3 := h.s0
  rcases Int.lt_trichotomy (n : Int) s with q | q | q
  · have := Gd.mul_lt (show (n : Int) + 1 ≤ s by omega) (show (n : Int) + 1 ≤ s by omega) (by omega) (by omega); omega
  · exact q
  · have := Gd.mul_lt (show s + 1 ≤ (n : Int) by omega) (show s + 1 ≤ (n : Int) by omega) (by omega) (by omega); omega
theorem side_pos {D s : Int} (h : Gd.Side D s) : 1 ≤ D := by
  have := h.lo
  have h2 := Int.mul_nonneg h.s0 h.s0
  omega
theorem side_bd {k : Nat} {D s : Int} (h : Gd.Side D s) (hk : Bd k D) : Bd k s := by
  unfold Bd at *
  have h1 := side_pos h
  have h3 := h.s0
  have h4 := h.lo
  have : s ≤ D := by
    rcases Int.lt_or_le 0 s with h5 | h5
    · have := Int.mul_le_mul_of_nonneg_left (show 1 ≤ s by omega) h3
      omega
    · omega
  omega
inductive rUnfit : List D → D → Prop
  | mk (x s : Int) (k : Nat) (h : Gd.Side x s) (hk : Bd k x) (e : k < 12000) : rUnfit [.int x] (.bl false)
abbrev N_unfit_disc : List Str := [("disc" : Str), ("side" : Str)]
theorem sc_unfit_disc : FnScope N_unfit_disc [("disc" : Str)] (defScope s_unfit_disc) := ⟨rfl, rfl, rfl, by decide +kernel, rfl, by decide +kernel, by decide +kernel⟩
theorem ok_unfit_disc {f : Addr} {fd : FuncData} (F : FunD K "unfit_disc" "unfit_disc" (defArgs s_unfit_disc) (defBody s_unfit_disc) (defScope s_unfit_disc) [] [] f fd) (hb : Binds K fd [("disc" : Str)] []) (T : Txt K mg) : FnR P w K mg base CX0 1 f (spD K 1 rUnfit) := by
  have B : FnOk P w K mg base CX0 1 f fd [("disc" : Str)] (spD K 1 rUnfit) := by
    refine F.ok sc_unfit_disc (fun vs H Q E h => h.1) (fun cdv A outer s H vs Q E hr h => ?_)
    have hu := hr.units
    have hu1 : _ + 1 < cLine := Nat.lt_of_le_of_lt (Nat.add_le_add_left (by decide : 1 ≤ 64) _) hr.units
    have nd := sc_unfit_disc.nd
    refine ⟨_, PSs.nox (pss_cons (ps_if (pt_cmpR op_lt (pv 0) pe_int (nomark _)) (pss_one (ps_ret pe_bl)) pss_nil)
      (pss_cons (ps_set (i := 1) nd rfl (Or.inl rfl) (pe_callBfun cr_isqrt (by rfl) T.f_isqrt (pa_cons (pv 0) pa_nil)))
      (pss_one (ps_ret (pe_cmpR op_eq (pe_op op_mulW (pv 1) (pv 1)) (pv 0) (nomark _)))))), enter h (by decide) ?_⟩
    rintro _ _ ⟨x, s, k, hS, hk, e⟩ _
    left
    show ExD K _ [.fr (.int x), .un] _
    walk_at "clean"
    have h1 := side_pos hS
    have hs := side_bd hS hk
    with_reducible apply xs_skip
    · walk_at "ev"
    · simp; omega
    · with_reducible apply xs_set (d := .int s)
      · with_reducible apply ev_is
        · with_reducible apply ev_isqrt
          · walk_at "ev"
          · omega
          · have := hk.log; omega
        · rw [isq_side hS]
      · dsimp only [List.set]
        with_reducible apply x_ret
        with_reducible apply ev_is
        · walk_at "ev"
        · have := hS.lo
          rw [decide_eq_false (by omega)]
  exact (B.raw hb .nil).imp fun vs H Q E h => by rw [List.append_nil]; exact h
inductive rFloorBy : List D → D → Prop
  | mk (a b s : Int) (k : Nat) (h0 : a ≠ 0) (ha : Bd k a) (e : k < 8000) : rFloorBy [.int a, .int b, .int s] (.int (Gd.floorBy a b s))
abbrev N_floor_by_side : List Str := [("a" : Str), ("b" : Str), ("side" : Str)]
theorem sc_floor_by_side : FnScope N_floor_by_side [("a" : Str), ("b" : Str), ("side" : Str)] (defScope s_floor_by_side) := ⟨rfl, rfl, rfl, by decide +kernel, rfl, by decide +kernel, by decide +kernel⟩
theorem ok_floor_by_side {f : Addr} {fd : FuncData} (F : FunD K "floor_by_side" "floor_by_side" (defArgs s_floor_by_side) (defBody s_floor_by_side) (defScope s_floor_by_side) [] [] f fd) (hb : Binds K fd [("a" : Str), ("b" : Str), ("side" : Str)] []) (T : Txt K mg) : FnR P w K mg base CX0 1 f (spD K 3 rFloorBy) := by
  have B : FnOk P w K mg base CX0 1 f fd [("a" : Str), ("b" : Str), ("side" : Str)] (spD K 3 rFloorBy) := by
    refine F.ok sc_floor_by_side (fun vs H Q E h => h.1) (fun cdv A outer s H vs Q E hr h => ?_)
    have hu := hr.units
    have hu1 : _ + 1 < cLine := Nat.lt_of_le_of_lt (Nat.add_le_add_left (by decide : 1 ≤ 64) _) hr.units
    have nd := sc_floor_by_side.nd
    refine ⟨_, PSs.nox (pss_cons (ps_if (pt_cmpR op_gt (pv 0) pe_int (nomark _)) (pss_one (ps_ret (pe_op op_fdivW (pe_op op_sub (pv 2) (pv 1)) (pe_op op_mulW pe_int (pv 0))))) pss_nil)
      (pss_one (ps_ret (pe_op op_fdivW (pe_op op_sub (pe_op op_sub (pv 1) (pv 2)) pe_int) (pe_op op_mulW (pe_un un_neg pe_int) (pv 0)))))), enter h (by decide) ?_⟩
    rintro _ _ ⟨a, b, s, k, h0, ha, e⟩ _
    left
    show ExD K _ [.fr (.int a), .fr (.int b), .fr (.int s)] _
    walk_at "clean"
    unfold Gd.floorBy
    split
    · rename_i hp
      with_reducible apply xs_take
      · walk_at "ev"
      · simp; exact hp
      · walk_at "ret"
        exact Bd.cd (Bd.mul Bd.i2 ha) (by omega) (by omega)
    · rename_i hp
      with_reducible apply xs_skip
      · walk_at "ev"
      · simp; omega
      · with_reducible apply x_ret
        with_reducible apply ev_fdiv
        · walk_at "ev"
        · with_reducible apply ev_mul (i := -2)
          · exact ev_neg (i := 2) ev_int
          · walk_at "ev"
          · walk_at "ev"
        · exact Bd.cd (Bd.mul Bd.m2 ha) (by omega) (by omega)
  exact (B.raw hb .nil).imp fun vs H Q E h => by rw [List.append_nil]; exact h
inductive rMoved (K : Frag) : List D → D → Prop
  | mk (q : Gd.Qf) (x : Gd.Tb) (k l : Nat) (ha : Bd k q.a) (hb : Bd k q.b) (hc : Bd k q.c) (hx : BdT l x) (e : k < 100000) (e2 : l < 100000) : rMoved K [.int q.a, .int q.b, .int q.c, dT K x] (.tup [.int (q.on x).a, .int (q.on x).b, .int (q.on x).c])
abbrev N_moved_numbers : List Str := [("a" : Str), ("b" : Str), ("c" : Str), ("table" : Str), ("p" : Str), ("q" : Str), ("r" : Str), ("s" : Str), ("first" : Str), ("middle" : Str), ("last" : Str)]
theorem sc_moved_numbers : FnScope N_moved_numbers [("a" : Str), ("b" : Str), ("c" : Str), ("table" : Str)] (defScope s_moved_numbers) := ⟨rfl, rfl, rfl, by decide +kernel, rfl, by decide +kernel, by decide +kernel⟩
theorem ok_moved_numbers {f : Addr} {fd : FuncData} (F : FunD K "moved_numbers" "moved_numbers" (defArgs s_moved_numbers) (defBody s_moved_numbers) (defScope s_moved_numbers) [] [] f fd) (hb : Binds K fd [("a" : Str), ("b" : Str), ("c" : Str), ("table" : Str)] []) (T : Txt K mg) : FnR P w K mg base CX0 1 f (spD K 4 (rMoved K)) := by
  have B : FnOk P w K mg base CX0 1 f fd [("a" : Str), ("b" : Str), ("c" : Str), ("table" : Str)] (spD K 4 (rMoved K)) := by
    refine F.ok sc_moved_numbers (fun vs H Q E h => h.1) (fun cdv A outer s H vs Q E hr h => ?_)
    have hu := hr.units
    have hu1 : _ + 1 < cLine := Nat.lt_of_le_of_lt (Nat.add_le_add_left (by decide : 1 ≤ 64) _) hr.units
    have nd := sc_moved_numbers.nd
    refine ⟨_, PSs.nox (pss_cons (ps_asg (pe_tup (pa_cons (pe_fld (pv 3) rfl) (pa_cons (pe_fld (pv 3) rfl) (pa_cons (pe_fld (pv 3) rfl) (pa_cons (pe_fld (pv 3) rfl) pa_nil))))) (pg_tup rfl (pgs_cons (pg_name (i := 4) nd rfl (Or.inl rfl)) (pgs_cons (pg_name (i := 5) nd rfl (Or.inl rfl)) (pgs_cons (pg_name (i := 6) nd rfl (Or.inl rfl)) (pgs_cons (pg_name (i := 7) nd rfl (Or.inl rfl)) pgs_nil))))))
      (pss_cons (ps_set (i := 8) nd rfl (Or.inl rfl) (pe_op op_add (pe_op op_add (pe_op op_mulW (pe_op op_mulW (pv 0) (pv 4)) (pv 4)) (pe_op op_mulW (pe_op op_mulW (pv 1) (pv 4)) (pv 6))) (pe_op op_mulW (pe_op op_mulW (pv 2) (pv 6)) (pv 6))))
      (pss_cons (ps_set (i := 9) nd rfl (Or.inl rfl) (pe_op op_add (pe_op op_add (pe_op op_mulW (pe_op op_mulW (pe_op op_mulW pe_int (pv 0)) (pv 4)) (pv 5)) (pe_op op_mulW (pv 1) (pe_op op_add (pe_op op_mulW (pv 4) (pv 7)) (pe_op op_mulW (pv 5) (pv 6))))) (pe_op op_mulW (pe_op op_mulW (pe_op op_mulW pe_int (pv 2)) (pv 6)) (pv 7))))
      (pss_cons (ps_set (i := 10) nd rfl (Or.inl rfl) (pe_op op_add (pe_op op_add (pe_op op_mulW (pe_op op_mulW (pv 0) (pv 5)) (pv 5)) (pe_op op_mulW (pe_op op_mulW (pv 1) (pv 5)) (pv 7))) (pe_op op_mulW (pe_op op_mulW (pv 2) (pv 7)) (pv 7))))
      (pss_one (ps_ret (pe_tup (pa_cons (pv 8) (pa_cons (pv 9) (pa_cons (pv 10) pa_nil)))))))))), enter h (by decide) ?_⟩
    rintro _ _ ⟨q, x, k, l, ha, hb, hc, hx, e, e2⟩ _
    left
    show ExD K _ [.fr (.int q.a), .fr (.int q.b), .fr (.int q.c), .fr (dT K x), .un, .un, .un, .un, .un, .un, .un] _
    walk_at "clean"
    walk_at "as4"
    walk_at "set"
    walk_at "set"
    walk_at "set"
    with_reducible apply x_ret
    with_reducible apply ev_is
    · walk_at "ev"
    · rfl
  exact (B.raw hb .nil).imp fun vs H Q E h => by rw [List.append_nil]; exact h
def rRootI : List D → List Str → List D → Prop := fun ds ns xs => ∃ (q : Gd.Qf) (g : Nat) (S : Int) (k : Nat), ds = [.int (g * q.a), .int (g * q.b), .int (g * q.c)] ∧ 0 < g ∧ q.Pr ∧ Gd.Side ((q.scale g).disc) S ∧ Bd k (g * q.a) ∧ Bd k (g * q.b) ∧ Bd k (g * q.c) ∧ Bd k (g : Int) ∧ k < 2000 ∧ ns = nR ∧ xs = [.int q.a, .int q.b, .int q.c, .int q.disc]
abbrev N_Rootd_initd : List Str := [("self" : Str), ("a" : Str), ("b" : Str), ("c" : Str), ("disc" : Str), ("common" : Str)]
theorem sc_Rootd_initd : FnScope N_Rootd_initd [("self" : Str), ("a" : Str), ("b" : Str), ("c" : Str)] (defScope s_Rootd_initd) := ⟨rfl, rfl, rfl, by decide +kernel, rfl, by decide +kernel, by decide +kernel⟩
theorem ok_Rootd_initd {f : Addr} {fd : FuncData} (F : FunD K "__init__" "Root.__init__" (defArgs s_Rootd_initd) (defBody s_Rootd_initd) (defScope s_Rootd_initd) [] [] f fd) (hb : Binds K fd [("self" : Str), ("a" : Str), ("b" : Str), ("c" : Str)] []) (T : Txt K mg) (h_unfit_disc : Fn P w K mg base "unfit_disc" 1 (spD K 1 rUnfit)) : FnR P w K mg base CX0 2 f (spI K (cRoot K) 3 rRootI) := by
  have B : FnOk P w K mg base CX0 2 f fd [("self" : Str), ("a" : Str), ("b" : Str), ("c" : Str)] (spI K (cRoot K) 3 rRootI) := by
    refine F.ok sc_Rootd_initd (fun vs H Q E h => h.1) (fun cdv A outer s H vs Q E hr h => ?_)
    have hr1 : Room 1 _ := hr.mono (by decide)
    have hu := hr.units
    have hu1 : _ + 1 < cLine := Nat.lt_of_le_of_lt (Nat.add_le_add_left (by decide : 1 ≤ 64) _) hr.units
    have nd := sc_Rootd_initd.nd
    refine ⟨_, PSs.nox (pss_cons (ps_set (i := 4) nd rfl (Or.inl rfl) (pe_op op_sub (pe_op op_mulW (pv 2) (pv 2)) (pe_op op_mulW (pe_op op_mulW pe_int (pv 1)) (pv 3))))
      (pss_cons (ps_if (pt_val (pe_fn h_unfit_disc hr1 rfl (pa_cons (pv 4) pa_nil))) pss_never pss_nil)
      (pss_cons (ps_set (i := 5) nd rfl (Or.inl rfl) (pe_callBfun cr_gcd (by rfl) T.f_gcd (pa_cons (pe_callBfun cr_gcd (by rfl) T.f_gcd (pa_cons (pv 1) (pa_cons (pv 2) pa_nil))) (pa_cons (pv 3) pa_nil))))
      (pss_cons (ps_fld (pv 0) (pe_op op_fdivW (pv 1) (pv 5)) rfl)
      (pss_cons (ps_fld (pv 0) (pe_op op_fdivW (pv 2) (pv 5)) rfl)
      (pss_cons (ps_fld (pv 0) (pe_op op_fdivW (pv 3) (pv 5)) rfl)
      (pss_one (ps_fld (pv 0) (pe_op op_fdivW (pv 4) (pe_op op_mulW (pv 5) (pv 5))) rfl)))))))), enterI h (by decide) ?_⟩
    rintro _ _ _ ⟨q, g, S, k, rfl, g0, hP, hS, ba, bb, bc, bg, hk, rfl, rfl⟩ _ x
    have hg : (Nat.gcd ((Nat.gcd (((g : Int) * q.a).natAbs) (((g : Int) * q.b).natAbs) : Nat) : Int).natAbs (((g : Int) * q.c).natAbs)) = g := by
      have := Gd.Qf.cont_scale g q
      unfold Gd.Qf.Pr at hP
      rw [hP, Nat.mul_one] at this
      unfold Gd.Qf.cont Gd.Qf.scale at this
      rw [Int.natAbs_natCast]
      exact this
    have hdisc : (g : Int) * q.b * (g * q.b) - 4 * (g * q.a) * (g * q.c) = (q.scale g).disc := rfl
    have cdg : ∀ i : Int, CDivW i (g : Int) := fun i => Bd.cd bg (by omega) (by omega)
    have dv : ∀ z : Int, ((g : Int) * z) / g = z := fun z => Int.mul_ediv_cancel_left _ (by omega)
    have bdisc : Bd (k + k + (3 + k + k) + 1) ((g : Int) * q.b * (g * q.b) - 4 * (g * q.a) * (g * q.c)) := Bd.sub (Bd.mul bb bb) (Bd.mul (Bd.mul Bd.i4 ba) bc)
    refine ⟨[.oi x (cRoot K) nR [.int q.a, .int q.b, .int q.c, .int q.disc], .fr (.int (g * q.a)), .fr (.int (g * q.b)), .fr (.int (g * q.c)), .fr (.int ((q.scale g).disc)), .fr (.int g)], rfl, ?_⟩
    show ExD K _ [.oi x (cRoot K) [] [], .fr (.int (g * q.a)), .fr (.int (g * q.b)), .fr (.int (g * q.c)), .un, .un] _
    walk_at "clean"
    with_reducible apply xs_set (d := .int ((q.scale g).disc))
    · with_reducible apply ev_is
      · walk_at "ev"
      · rw [← hdisc]
    · dsimp only [List.set]
      with_reducible apply xs_guard (b := false)
      · with_reducible apply et_B
        with_reducible apply ev_call'
        · walk_at "ev"
        · rfl
        · exact .mk _ S _ hS (hdisc ▸ bdisc) (by omega)
      · rfl
      · with_reducible apply xs_set (d := .int g)
        · with_reducible apply ev_is
          · walk_at "ev"
          · rw [hg]
        · dsimp only [List.set]
          with_reducible apply xs_fld (d := .int q.a)
          · with_reducible apply ev_is
            · walk_at "ev"
              exact cdg _
            · rw [dv]
          · rfl
          · exact T.clRoot
          · exact T.nRoot_a
          · decide
          · decide
          · dsimp only [List.set]
            with_reducible apply xs_fld (d := .int q.b)
            · with_reducible apply ev_is
              · walk_at "ev"
                exact cdg _
              · rw [dv]
            · rfl
            · exact T.clRoot
            · exact T.nRoot_b
            · decide
            · decide
            · dsimp only [List.set]
              with_reducible apply xs_fld (d := .int q.c)
              · with_reducible apply ev_is
                · walk_at "ev"
                  exact cdg _
                · rw [dv]
              · rfl
              · exact T.clRoot
              · exact T.nRoot_c
              · decide
              · decide
              · dsimp only [List.set]
                with_reducible apply x_to
                · with_reducible apply x_fld (d := .int q.disc)
                  · with_reducible apply ev_is
                    · walk_at "ev"
                      have gg : (0 : Int) < (g : Int) * g := Int.mul_pos (by omega) (by omega)
                      exact Bd.cd (Bd.mul bg bg) gg (by omega)
                    · rw [Gd.Qf.disc_scale, Int.mul_ediv_cancel_left]
                      exact Int.ne_of_gt (Int.mul_pos (by omega) (by omega))
                  · rfl
                  · exact T.clRoot
                  · exact T.nRoot_disc
                  · decide
                  · decide
                · rfl
  exact (B.raw hb .nil).imp fun vs H Q E h => by rw [List.append_nil]; exact h
structure BdQ (k : Nat) (q : Gd.Qf) : Prop where
  a : Bd k q.a
  b : Bd k q.b
  c : Bd k q.c
theorem BdQ.on {k l : Nat} {q : Gd.Qf} {x : Gd.Tb} (h : BdQ k q) (hx : BdT l x) : BdQ (k + l + l + k + l + l + k + l + l + 30) (q.on x) := by
  obtain ⟨ha, hb, hc⟩ := h
  obtain ⟨xa, xb, xc, xd⟩ := hx
  refine ⟨?_, ?_, ?_⟩
  · exact (((ha.mul xa).mul xa).add ((hb.mul xa).mul xc) |>.add ((hc.mul xc).mul xc)).le (by omega)
  · have h1 : Bd _ (2 * q.a * x.a * x.b) := ((Bd.i2.mul ha).mul xa).mul xb
    have h2 : Bd _ (q.b * (x.a * x.d + x.b * x.c)) := hb.mul ((xa.mul xd).addm (xb.mul xc))
    have h3 : Bd _ (2 * q.c * x.c * x.d) := ((Bd.i2.mul hc).mul xc).mul xd
    exact ((h1.add h2).add h3).le (by omega)
  · exact (((ha.mul xb).mul xb).add ((hb.mul xb).mul xd) |>.add ((hc.mul xd).mul xd)).le (by omega)
theorem BdQ.neg {k : Nat} {q : Gd.Qf} (h : BdQ k q) : BdQ k q.neg := ⟨h.a.neg, h.b.neg, h.c.neg⟩
theorem BdQ.moved {k l : Nat} {q : Gd.Qf} {x : Gd.Tb} (h : BdQ k q) (hx : BdT l x) : BdQ (k + l + l + k + l + l + k + l + l + 30) (q.moved x) := by
  unfold Gd.Qf.moved
  split
  · exact (h.on hx.adj).neg
  · exact h.on hx.adj
inductive rRootMoved (K : Frag) : List D → D → Prop
  | mk (q : Gd.Qf) (ts : List Int) (S : Int) (k l : Nat) (hP : q.Pr) (hS : Gd.Side q.disc S) (hq : BdQ k q) (hx : BdT l (Gd.prod ts)) (e : k + l + l < 600) : rRootMoved K [dR K q, dT K (Gd.prod ts)] (dR K (q.moved (Gd.prod ts)))
abbrev N_Root_moved : List Str := [("self" : Str), ("table" : Str), ("det" : Str), ("a" : Str), ("b" : Str), ("c" : Str)]
theorem sc_Root_moved : FnScope N_Root_moved [("self" : Str), ("table" : Str)] (defScope s_Root_moved) := ⟨rfl, rfl, rfl, by decide +kernel, rfl, by decide +kernel, by decide +kernel⟩
theorem ok_Root_moved {f : Addr} {fd : FuncData} (F : FunD K "moved" "Root.moved" (defArgs s_Root_moved) (defBody s_Root_moved) (defScope s_Root_moved) [] [] f fd) (hb : Binds K fd [("self" : Str), ("table" : Str)] []) (T : Txt K mg) (h_Table_det : Me P w K mg base (cTable K) "det" 1 (spD K 1 (rTDet K))) (h_moved_numbers : Fn P w K mg base "moved_numbers" 1 (spD K 4 (rMoved K))) (h_Table_adjugate : Me P w K mg base (cTable K) "adjugate" 3 (spD K 1 (rTAdj K))) (h_Rootd_initd : Mkr P w K mg base "Root" (cRoot K) 2 (spI K (cRoot K) 3 rRootI)) : FnR P w K mg base CX0 4 f (spD K 2 (rRootMoved K)) := by
  have B : FnOk P w K mg base CX0 4 f fd [("self" : Str), ("table" : Str)] (spD K 2 (rRootMoved K)) := by
    refine F.ok sc_Root_moved (fun vs H Q E h => h.1) (fun cdv A outer s H vs Q E hr h => ?_)
    have hr1 : Room 1 _ := hr.mono (by decide)
    have hr2 : Room 2 _ := hr.mono (by decide)
    have hr3 : Room 3 _ := hr.mono (by decide)
    have hu := hr.units
    have hu1 : _ + 1 < cLine := Nat.lt_of_le_of_lt (Nat.add_le_add_left (by decide : 1 ≤ 64) _) hr.units
    have nd := sc_Root_moved.nd
    refine ⟨_, PSs.nox (pss_cons (ps_set (i := 2) nd rfl (Or.inl rfl) (pe_me0 h_Table_det hr1 T.clTable (pv 1)))
      (pss_cons (ps_if (pt_cmpR op_eq (pv 2) pe_int (nomark _)) pss_never pss_nil)
      (pss_cons (ps_asg (pe_fn h_moved_numbers hr1 rfl (pa_cons (pe_fld (pv 0) rfl) (pa_cons (pe_fld (pv 0) rfl) (pa_cons (pe_fld (pv 0) rfl) (pa_cons (pe_me0 h_Table_adjugate hr3 T.clTable (pv 1)) pa_nil))))) (pg_tup rfl (pgs_cons (pg_name (i := 3) nd rfl (Or.inl rfl)) (pgs_cons (pg_name (i := 4) nd rfl (Or.inl rfl)) (pgs_cons (pg_name (i := 5) nd rfl (Or.inl rfl)) pgs_nil)))))
      (pss_cons (ps_if (pt_cmpR op_lt (pv 2) pe_int (nomark _)) (pss_one (ps_ret (pe_mkr h_Rootd_initd hr3 rfl (pa_cons (pe_un un_neg (pv 3)) (pa_cons (pe_un un_neg (pv 4)) (pa_cons (pe_un un_neg (pv 5)) pa_nil)))))) pss_nil)
      (pss_one (ps_ret (pe_mkr h_Rootd_initd hr3 rfl (pa_cons (pv 3) (pa_cons (pv 4) (pa_cons (pv 5) pa_nil)))))))))), enter h (by decide) ?_⟩
    rintro _ _ ⟨q, ts, S, k, l, hP, hS, hq, hx, e⟩ _
    left
    show ExD K _ [.fr (dR K q), .fr (dT K (Gd.prod ts)), .un, .un, .un, .un] _
    walk_at "clean"
    have hdet := Gd.det_prod_or ts
    have hP2 := Gd.Qf.pr_moved ts hP
    have hD2 := Gd.Qf.disc_moved q ts
    have hb2 := hq.moved hx
    have hI : ∀ q2 : Gd.Qf, q2 = q.moved (Gd.prod ts) → rRootI [.int q2.a, .int q2.b, .int q2.c] nR [.int (q.moved (Gd.prod ts)).a, .int (q.moved (Gd.prod ts)).b, .int (q.moved (Gd.prod ts)).c, .int (q.moved (Gd.prod ts)).disc] := fun q2 e2 => by
      subst e2
      refine ⟨q.moved (Gd.prod ts), 1, S, _, ?_, by omega, hP2, ?_, ?_, ?_, ?_, Bd.i1.le (show 1 ≤ k + l + l + k + l + l + k + l + l + 30 by omega), by omega, rfl, rfl⟩
      · simp
      · rw [show ((1 : Nat) : Int) = 1 from rfl, Gd.Qf.scale_one, hD2]; exact hS
      · rw [show ((1 : Nat) : Int) = 1 from rfl, Int.one_mul]; exact hb2.a
      · rw [show ((1 : Nat) : Int) = 1 from rfl, Int.one_mul]; exact hb2.b
      · rw [show ((1 : Nat) : Int) = 1 from rfl, Int.one_mul]; exact hb2.c
    obtain ⟨qa, qb, qc⟩ := hq
    with_reducible apply xs_set (d := .int (Gd.prod ts).det)
    · walk_at "ev"
      exact .mk _ l hx (by omega)
    · dsimp only [List.set]
      with_reducible apply xs_guard
      · walk_at "ev"
      · simp; omega
      · with_reducible apply xs_as3 (a := .int (q.on (Gd.prod ts).adj).a) (b := .int (q.on (Gd.prod ts).adj).b) (c := .int (q.on (Gd.prod ts).adj).c)
        · with_reducible apply ev_call'
          · with_reducible apply ea_cons
            · walk_at "ev"
            · with_reducible apply ea_cons
              · walk_at "ev"
              · with_reducible apply ea_cons
                · walk_at "ev"
                · with_reducible apply ea_cons (d := dT K (Gd.prod ts).adj)
                  · walk_at "ev"
                    exact .mk _
                  · exact ea_nil
          · rfl
          · exact .mk q _ k l qa qb qc hx.adj (by omega) (by omega)
        · dsimp only [List.set]
          rcases hdet with h | h
          · have em : q.moved (Gd.prod ts) = q.on (Gd.prod ts).adj := by unfold Gd.Qf.moved; rw [if_neg (by omega)]
            with_reducible apply xs_skip
            · walk_at "ev"
            · simp; omega
            · with_reducible apply x_ret
              with_reducible apply ev_make'
              · walk_at "ev"
              · rfl
              · exact hI _ em.symm
          · have em : q.moved (Gd.prod ts) = (q.on (Gd.prod ts).adj).neg := by unfold Gd.Qf.moved; rw [if_pos (by omega)]
            with_reducible apply xs_take
            · walk_at "ev"
            · simp; omega
            · with_reducible apply x_ret
              with_reducible apply ev_make'
              · walk_at "ev"
              · rfl
              · exact hI _ em.symm
  exact (B.raw hb .nil).imp fun vs H Q E h => by rw [List.append_nil]; exact h
end
end Gw


set_option Elab.async false
set_option linter.all false
set_option maxRecDepth 100000
set_option maxHeartbeats 4000000
namespace Gw
open PySem PySem.Spec PyProof.Rows L2 DL
local macro_rules | `(tactic| walk_at "bd") => `(tactic| first
  | assumption
  | exact Bd.i0 | exact Bd.i1 | exact Bd.i2 | exact Bd.i4 | exact Bd.m2 | exact Bd.m1
  | ((with_reducible apply BdT.a) <;> assumption) | ((with_reducible apply BdT.b) <;> assumption) | ((with_reducible apply BdT.c) <;> assumption) | ((with_reducible apply BdT.d) <;> assumption)
  | ((with_reducible apply Bd.mul) <;> walk_at "bd")
  | ((with_reducible apply Bd.add) <;> walk_at "bd")
  | ((with_reducible apply Bd.sub) <;> walk_at "bd")
  | ((with_reducible apply Bd.neg) <;> walk_at "bd"))
local macro_rules | `(tactic| walk_at "ev") => `(tactic| first
  | ((with_reducible show ExD _ _ _ _); try dsimp only [List.set])
  | with_reducible exact ev_int | with_reducible exact ev_non | with_reducible exact ev_bl | with_reducible exact ev_str
  | ((with_reducible apply ev_var); exact rfl)
  | with_reducible exact ea_nil
  | ((with_reducible apply ea_cons) <;> walk_at "ev")
  | ((with_reducible apply ev_add) <;> walk_at "ev")
  | ((with_reducible apply ev_sub) <;> walk_at "ev")
  | ((with_reducible apply ev_mul) <;> walk_at "ev")
  | ((with_reducible apply ev_fdiv) <;> walk_at "ev")
  | ((with_reducible apply ev_mod) <;> walk_at "ev")
  | ((with_reducible apply ev_lt) <;> walk_at "ev")
  | ((with_reducible apply ev_le) <;> walk_at "ev")
  | ((with_reducible apply ev_gt) <;> walk_at "ev")
  | ((with_reducible apply ev_ge) <;> walk_at "ev")
  | ((with_reducible apply ev_eqS (tb := tC (V.str _)) (hb := ev_str)) <;> walk_at "ev")
  | ((with_reducible apply ev_neS (tb := tC (V.str _)) (hb := ev_str)) <;> walk_at "ev")
  | ((with_reducible apply ev_eqI) <;> walk_at "ev")
  | ((with_reducible apply ev_neI) <;> walk_at "ev")
  | ((with_reducible apply ev_neg) <;> walk_at "ev")
  | ((with_reducible apply ev_gcd) <;> walk_at "ev")
  | ((with_reducible apply ev_fld) <;> walk_at "ev")
  | ((with_reducible apply et_test) <;> walk_at "ev")
  | ((with_reducible apply et_B) <;> walk_at "ev")
  | ((with_reducible apply et_not) <;> walk_at "ev")
  | ((with_reducible apply ev_tup) <;> walk_at "ev")
  | ((with_reducible apply ev_make') <;> walk_at "ev")
  | ((with_reducible apply ev_call') <;> walk_at "ev")
  | ((with_reducible apply ev_meth') <;> walk_at "ev")
  | ((with_reducible show List.length _ = _); exact rfl)
  | ((with_reducible show List.length _ + 1 = _); exact rfl)
  | ((with_reducible show List.lookup _ _ = _); exact rfl)
  | ((with_reducible apply et_or') <;> walk_at "ev")
  | ((with_reducible apply et_and') <;> walk_at "ev")
  | ((with_reducible apply ev_own2) <;> walk_at "ev")
  | ((with_reducible apply ev_own1) <;> walk_at "ev")
  | ((with_reducible apply ev_st) <;> walk_at "ev")
  | ((with_reducible apply ev_abs) <;> walk_at "ev")
  | ((with_reducible apply ev_max2) <;> walk_at "ev")
  | ((with_reducible apply ev_divmod) <;> walk_at "ev")
  | ((with_reducible apply ev_intI) <;> walk_at "ev")
  | ((with_reducible apply ev_isN) <;> walk_at "ev")
  | ((with_reducible apply ev_notN) <;> walk_at "ev")
  | ((with_reducible apply ev_eqS) <;> walk_at "ev")
  | ((with_reducible apply ev_neS) <;> walk_at "ev")
  | ((with_reducible apply ev_lenO); exact rfl)
  | ((with_reducible apply ev_len) <;> walk_at "ev")
  | ((with_reducible show D.items _ = _); first | assumption | exact rfl)
  | ((with_reducible show rTableI _ _ _); exact ⟨rfl, rfl⟩)
  | ((with_reducible show _ = false); first | rfl | (simp; done) | (simp; omega))
  | ((with_reducible show _ = true); first | rfl | (simp; done) | (simp; omega))
  | ((with_reducible show 2 = _); exact rfl)
  | ((with_reducible show 1 = _); exact rfl)
  | exact Txt.clTable ‹_› | exact Txt.clFrac ‹_› | exact Txt.clRow ‹_› | exact Txt.clRoot ‹_›
  | exact Txt.nTable_a ‹_› | exact Txt.nTable_b ‹_› | exact Txt.nTable_c ‹_› | exact Txt.nTable_d ‹_› | exact Txt.nFrac_top ‹_› | exact Txt.nFrac_bottom ‹_›
  | exact Txt.nRow_head ‹_› | exact Txt.nRow_loop ‹_› | exact Txt.nRow_kind ‹_› | exact Txt.nRoot_a ‹_› | exact Txt.nRoot_b ‹_› | exact Txt.nRoot_c ‹_› | exact Txt.nRoot_disc ‹_›
  | ((with_reducible apply Bd.cm) <;> first | walk_at "bd" | omega)
  | ((with_reducible show _ ≤ _); simp only [List.length_cons, List.length_nil]; omega)
  | ((with_reducible intro _); walk_at "ev")
  | skip)
local macro_rules | `(tactic| walk_at "set") => `(tactic| ((with_reducible apply xs_set) <;> walk_at "ev"))
local macro_rules | `(tactic| walk_at "ret") => `(tactic| ((with_reducible apply x_ret) <;> walk_at "ev"))
local macro_rules | `(tactic| walk_at "as4") => `(tactic| ((with_reducible (first | apply xs_as4 | apply xl_as4)) <;> walk_at "ev"))
local macro_rules | `(tactic| walk_at "as3") => `(tactic| ((with_reducible (first | apply xs_as3 | apply xl_as3)) <;> walk_at "ev"))
local macro_rules | `(tactic| walk_at "as2") => `(tactic| ((with_reducible (first | apply xs_as2 | apply xl_as2)) <;> walk_at "ev"))
local macro_rules | `(tactic| walk_at "par") => `(tactic| ((with_reducible (first | apply xs_par | apply x_par)) <;> walk_at "ev"))
local macro_rules | `(tactic| walk_at "fld") => `(tactic| ((with_reducible (first | apply xs_fld | apply x_fld)) <;> first | exact rfl | decide | walk_at "ev"))
local macro_rules | `(tactic| walk_at "guard") => `(tactic| ((with_reducible apply xs_guard) <;> walk_at "ev"))
local macro_rules | `(tactic| walk_at "skip") => `(tactic| ((with_reducible apply xs_skip) <;> walk_at "ev"))
local macro_rules | `(tactic| walk_at "take") => `(tactic| ((with_reducible apply xs_take) <;> walk_at "ev"))
local macro_rules | `(tactic| walk_at "clean") => `(tactic| try simp only [cxK, cxK', asnL, List.length_cons, List.length_nil, Nat.zero_add, Nat.reduceAdd])
section
variable {P : Program} {w : World} {K : Frag} {mg : Str → Option Value} {base : Heap}
/-- the states of a root, its turns, and the place that comes again -/
structure Rolls (q : Gd.Qf) (s : Int) (ts : List Int) (at_ : Nat) (k : Nat) : Prop where
  ln : at_ < ts.length
  fl : ∀ i, i < ts.length → Gd.floorBy (q.run (ts.take i)).a (q.run (ts.take i)).b s = ts.getD i 0
  ds : ∀ i j, i < j → j < ts.length → q.run (ts.take i) ≠ q.run (ts.take j)
  bk : q.run ts = q.run (ts.take at_)
  bd : ∀ i, i ≤ ts.length → BdQ k (q.run (ts.take i))
  tb : ∀ t ∈ ts, Bd k t
  a0 : ∀ i, i < ts.length → (q.run (ts.take i)).a ≠ 0
  kz : k < 8000
def sKey (q : Gd.Qf) : List Int := [q.a, q.b, q.c]
def sTup (q : Gd.Qf) : D := .tup [.int q.a, .int q.b, .int q.c]
def sAt (q : Gd.Qf) (ts : List Int) (i : Nat) : Gd.Qf := q.run (ts.take i)
def kvsOf (q : Gd.Qf) (ts : List Int) (i : Nat) : List (List Int × Int) := (List.range i).map fun j => (sKey (sAt q ts j), (j : Int))
theorem sKey_inj {p q : Gd.Qf} (h : sKey p = sKey q) : p = q := by
  unfold sKey at h
  injection h with h1 h
  injection h with h2 h
  injection h with h3 h
  exact Gd.Qf.ext' h1 h2 h3
theorem look_none {q : Gd.Qf} {ts : List Int} {i : Nat} {x : Gd.Qf} (h : ∀ j, j < i → sAt q ts j ≠ x) : lookT (kvsOf q ts i) (sKey x) = none := by
  unfold lookT kvsOf
  rw [Option.map_eq_none_iff, List.find?_eq_none]
  intro p hp
  rw [List.mem_map] at hp
  obtain ⟨j, hj, rfl⟩ := hp
  rw [List.mem_range] at hj
  intro e
  exact h j hj (sKey_inj (of_decide_eq_true e))
theorem look_some {q : Gd.Qf} {ts : List Int} {n a : Nat} {x : Gd.Qf} (ha : a < n) (hx : sAt q ts a = x) (h : ∀ j, j < a → sAt q ts j ≠ x) : lookT (kvsOf q ts n) (sKey x) = some (a : Int) := by
  unfold lookT
  have e : (kvsOf q ts n).find? (fun p => decide (p.1 = sKey x)) = some (sKey (sAt q ts a), (a : Int)) := by
    rw [List.find?_eq_some_iff_getElem]
    refine ⟨by simp [hx], a, by unfold kvsOf; simp; exact ha, by unfold kvsOf; simp, fun j hj => ?_⟩
    unfold kvsOf
    simp only [List.getElem_map, List.getElem_range]
    rw [Bool.not_eq_true', decide_eq_false_iff_not]
    exact fun e => h j hj (sKey_inj e)
  rw [e]; rfl
theorem kvs_succ (q : Gd.Qf) (ts : List Int) (i : Nat) : kvsOf q ts (i + 1) = kvsOf q ts i ++ [(sKey (sAt q ts i), (i : Int))] := by
  unfold kvsOf; rw [List.range_succ, List.map_append]; rfl
def trip (q : Gd.Qf) (ts : List Int) (i : Nat) : List D := (List.range i).map fun j => sTup (sAt q ts j)
theorem trip_succ (q : Gd.Qf) (ts : List Int) (i : Nat) : trip q ts (i + 1) = trip q ts i ++ [sTup (sAt q ts i)] := by
  unfold trip; rw [List.range_succ, List.map_append]; rfl
theorem trip_len (q : Gd.Qf) (ts : List Int) (i : Nat) : (trip q ts i).length = i := by simp [trip]
theorem sAt_succ {q : Gd.Qf} {ts : List Int} {i : Nat} (h : i < ts.length) : sAt q ts (i + 1) = (sAt q ts i).nxt (ts.getD i 0) := by
  unfold sAt
  rw [List.take_add_one, List.getElem?_eq_getElem h, List.getD_eq_getElem?_getD, List.getElem?_eq_getElem h]
  show q.run (ts.take i ++ [ts[i]]) = _
  rw [Gd.Qf.run_append]; rfl
inductive rWalk (K : Frag) : List D → List D → List D → Int → Prop
  | mk (q : Gd.Qf) (s : Int) (ts : List Int) (a k : Nat) (h : Rolls q s ts a k) (hS : Gd.Side q.disc s) (hb : Bd 11999 q.disc) (hz : ts.length ≤ 1000) : rWalk K [dR K q, .int 1000] (trip q ts (ts.length + 1)) (dI ts) a
abbrev N__walk : List Str := [("root" : Str), ("most" : Str), ("side" : Str), ("a" : Str), ("b" : Str), ("c" : Str), ("places" : Str), ("triples" : Str), ("turns" : Str), ("at" : Str), ("turn" : Str)]
theorem sc__walk : FnScope N__walk [("root" : Str), ("most" : Str)] (defScope s__walk) := ⟨rfl, rfl, rfl, by decide +kernel, rfl, by decide +kernel, by decide +kernel⟩
theorem ok__walk {f : Addr} {fd : FuncData} (F : FunD K "_walk" "_walk" (defArgs s__walk) (defBody s__walk) (defScope s__walk) [] [] f fd) (hb : Binds K fd [("root" : Str), ("most" : Str)] []) (T : Txt K mg) (h_floor_by_side : Fn P w K mg base "floor_by_side" 1 (spD K 3 rFloorBy)) : FnR P w K mg base CX0 2 f (spW K 2 (rWalk K)) := by
  have B : FnOk P w K mg base CX0 2 f fd [("root" : Str), ("most" : Str)] (spW K 2 (rWalk K)) := by
    refine F.ok sc__walk (fun vs H Q E h => h.1) (fun cdv A outer s H vs Q E hr h => ?_)
    have hr1 : Room 1 _ := hr.mono (by decide)
    have hu := hr.units
    have hu1 : _ + 1 < cLine := Nat.lt_of_le_of_lt (Nat.add_le_add_left (by decide : 1 ≤ 64) _) hr.units
    have nd := sc__walk.nd
    refine ⟨_, PSs.nox (pss_cons (ps_set (i := 2) nd rfl (Or.inl rfl) (pe_callBfun cr_isqrt (by rfl) T.f_isqrt (pa_cons (pe_fld (pv 0) rfl) pa_nil)))
      (pss_cons (ps_par3 (i := 3) (j := 4) (l := 5) rfl nd rfl rfl rfl (by decide) (by decide) (by decide) rfl rfl rfl (pa_cons (pe_fld (pv 0) rfl) (pa_cons (pe_fld (pv 0) rfl) (pa_cons (pe_fld (pv 0) rfl) pa_nil))) (by rfl))
      (pss_cons (ps_set (i := 6) nd rfl (Or.inl rfl) pe_dnewT)
      (pss_cons (ps_set (i := 7) nd rfl (Or.inl rfl) (pe_lst pa_nil))
      (pss_cons (ps_set (i := 8) nd rfl (Or.inl rfl) (pe_lst pa_nil))
      (pss_cons (ps_while PassesOwn.never (pt_cmpR op_le (pe_callB call_lenA (by rfl) T.b_len (by decide +kernel) (pa_cons (pv 7) pa_nil)) (pv 1) (nomark _)) (pss_cons (ps_set (i := 9) nd rfl (Or.inl rfl) (pe_dget1 hu1 (pv 6) (pe_tup (pa_cons (pv 3) (pa_cons (pv 4) (pa_cons (pv 5) pa_nil)))) ⟨rfl, by rfl, rfl, rfl⟩))
        (pss_cons (ps_expr (pe_bm PySem.F.plainAttrs_list PySem.F.slot_list_append PySem.F.type_list_append mt_append (pv 7) (pa_cons (pe_tup (pa_cons (pv 3) (pa_cons (pv 4) (pa_cons (pv 5) pa_nil)))) pa_nil)))
        (pss_cons (ps_if (pt_cmpR op_notN (pv 9) pe_non (nomark _)) (pss_one (ps_ret (pe_tup (pa_cons (pv 7) (pa_cons (pv 8) (pa_cons (pv 9) pa_nil)))))) pss_nil)
        (pss_cons (ps_dput hu1 (pv 6) (pe_tup (pa_cons (pv 3) (pa_cons (pv 4) (pa_cons (pv 5) pa_nil)))) (pe_op op_sub (pe_callB call_lenA (by rfl) T.b_len (by decide +kernel) (pa_cons (pv 7) pa_nil)) pe_int) rfl)
        (pss_cons (ps_set (i := 10) nd rfl (Or.inl rfl) (pe_fn h_floor_by_side hr1 rfl (pa_cons (pv 3) (pa_cons (pv 4) (pa_cons (pv 2) pa_nil)))))
        (pss_cons (ps_expr (pe_bm PySem.F.plainAttrs_list PySem.F.slot_list_append PySem.F.type_list_append mt_append (pv 8) (pa_cons (pv 10) pa_nil)))
        (pss_one (ps_par3 (i := 3) (j := 4) (l := 5) rfl nd rfl rfl rfl (by decide) (by decide) (by decide) rfl rfl rfl (pa_cons (pe_un un_neg (pe_op op_add (pe_op op_add (pe_op op_mulW (pe_op op_mulW (pv 3) (pv 10)) (pv 10)) (pe_op op_mulW (pv 4) (pv 10))) (pv 5))) (pa_cons (pe_un un_neg (pe_op op_add (pe_op op_mulW (pe_op op_mulW pe_int (pv 3)) (pv 10)) (pv 4))) (pa_cons (pe_un un_neg (pv 3)) pa_nil))) (by rfl))))))))))
      (pss_one (ps_ret pe_non)))))))), enterW h (by decide) ?_⟩
    rintro _ _ _ _ ⟨q, s, ts, at_, k, hR, hS, hb, hz⟩ _
    show ExD K _ [.fr (dR K q), .fr (.int 1000), .un, .un, .un, .un, .un, .un, .un, .un, .un] _
    walk_at "clean"
    have hkz := hR.kz
    with_reducible apply xs_set (d := .int s)
    · with_reducible apply ev_is
      · with_reducible apply ev_isqrt
        · walk_at "ev"
        · have := side_pos hS; omega
        · have := hb.log; omega
      · rw [isq_side hS]
    · dsimp only [List.set]
      with_reducible apply xs_par3
      · walk_at "ev"
      · dsimp only [List.set]
        refine x_seq x_newDict ?_
        dsimp only [List.set]
        with_reducible apply xs_setL
        · exact el_lst ea_nil (by decide)
        · dsimp only [List.set]
          with_reducible apply xs_setL
          · exact el_lst ea_nil (by decide)
          · dsimp only [List.set]
            refine x_seq_rp (x_while_rp (n := ts.length) (fun i => [.fr (dR K q), .fr (.int 1000), .fr (.int s), .fr (.int (sAt q ts i).a), .fr (.int (sAt q ts i).b), .fr (.int (sAt q ts i).c), Sl.ofT (kvsOf q ts i), .ow none (trip q ts i), .ow none (dI (ts.take i)), .un, .un]) ?_ ?_)
            · intro i hi
              have hkeys : EvA K (tCons (tVar 3) (tCons (tVar 4) (tCons (tVar 5) tNil))) [.fr (dR K q), .fr (.int 1000), .fr (.int s), .fr (.int (sAt q ts i).a), .fr (.int (sAt q ts i).b), .fr (.int (sAt q ts i).c), Sl.ofT (kvsOf q ts i), .ow none (trip q ts i), .ow none (dI (ts.take i)), .un, .un] ((sKey (sAt q ts i)).map D.int) [.fr (dR K q), .fr (.int 1000), .fr (.int s), .fr (.int (sAt q ts i).a), .fr (.int (sAt q ts i).b), .fr (.int (sAt q ts i).c), Sl.ofT (kvsOf q ts i), .ow none (trip q ts i), .ow none (dI (ts.take i)), .un, .un] := ea_cons (ev_var rfl) (ea_cons (ev_var rfl) (ea_cons (ev_var rfl) ea_nil))
              have hnone : lookT (kvsOf q ts i) (sKey (sAt q ts i)) = none := look_none fun j hj => hR.ds j i hj hi
              obtain ⟨ba, bb, bc⟩ := hR.bd i (by omega)
              have bt : Bd k (ts.getD i 0) := getD_bd hR.tb hi
              refine ⟨?_, ?_⟩
              · with_reducible apply et_is
                · walk_at "ev"
                · rw [trip_len]; simp; omega
              · with_reducible apply x_toF2 (i := 9) (j := 10)
                · with_reducible apply xs_set (d := .non)
                  · with_reducible apply ev_is
                    · exact ev_dget (k := 6) (kvs := kvsOf q ts i) (ks := sKey (sAt q ts i)) rfl hkeys (by simp [sKey])
                    · rw [hnone]; rfl
                  · dsimp only [List.set]
                    refine x_seq (x_app (k := 7) (d := sTup (sAt q ts i)) (ds0 := trip q ts i) (ds := trip q ts i) (tg := none) (Δ1 := [.fr (dR K q), .fr (.int 1000), .fr (.int s), .fr (.int (sAt q ts i).a), .fr (.int (sAt q ts i).b), .fr (.int (sAt q ts i).c), Sl.ofT (kvsOf q ts i), .ow none (trip q ts i), .ow none (dI (ts.take i)), .fr .non, .un]) rfl (ev_tup (ea_cons (ev_var rfl) (ea_cons (ev_var rfl) (ea_cons (ev_var rfl) ea_nil))) (by simp)) rfl (by rw [trip_len]; omega)) ?_
                    rw [← trip_succ]
                    dsimp only [List.set]
                    with_reducible apply xs_skip
                    · walk_at "ev"
                    · rfl
                    · refine x_seq (x_dput (k := 6) (kvs := kvsOf q ts i) (ks := sKey (sAt q ts i)) (z := (i : Int)) ?_ rfl (ea_cons (ev_var rfl) (ea_cons (ev_var rfl) (ea_cons (ev_var rfl) ea_nil))) (by simp [sKey]) hnone (by unfold kvsOf; simp; omega)) ?_
                      · with_reducible apply ev_is
                        · walk_at "ev"
                        · rw [trip_len]; congr 1; omega
                      · rw [← kvs_succ]
                        dsimp only [List.set]
                        with_reducible apply xs_set (d := .int (ts.getD i 0))
                        · walk_at "ev"
                          have := rFloorBy.mk (sAt q ts i).a (sAt q ts i).b s k (hR.a0 i hi) ba hkz
                          rw [show Gd.floorBy (sAt q ts i).a (sAt q ts i).b s = ts.getD i 0 from hR.fl i hi] at this
                          exact this
                        · dsimp only [List.set]
                          refine x_seq (x_app (k := 8) (d := .int (ts.getD i 0)) (ds0 := dI (ts.take i)) (ds := dI (ts.take i)) (tg := none) (Δ1 := [.fr (dR K q), .fr (.int 1000), .fr (.int s), .fr (.int (sAt q ts i).a), .fr (.int (sAt q ts i).b), .fr (.int (sAt q ts i).c), Sl.ofT (kvsOf q ts (i + 1)), .ow none (trip q ts (i + 1)), .ow none (dI (ts.take i)), .fr .non, .fr (.int (ts.getD i 0))]) rfl (ev_var rfl) rfl (by simp; omega)) ?_
                          rw [← dI_snoc]
                          dsimp only [List.set]
                          with_reducible apply x_par3 (a := .int (sAt q ts (i + 1)).a) (b := .int (sAt q ts (i + 1)).b) (c := .int (sAt q ts (i + 1)).c)
                          with_reducible apply ea_is
                          · have ba' : Bd k (sAt q ts i).a := ba
                            have bb' : Bd k (sAt q ts i).b := bb
                            have bc' : Bd k (sAt q ts i).c := bc
                            walk_at "ev"
                          · rw [sAt_succ hi]; rfl
                · have e : ts.take (i + 1) = ts.take i ++ [ts.getD i 0] := by
                    rw [List.take_add_one, List.getElem?_eq_getElem hi, List.getD_eq_getElem?_getD, List.getElem?_eq_getElem hi]; rfl
                  rw [e]; rfl
            · have hat : sAt q ts ts.length = sAt q ts at_ := by
                unfold sAt; rw [List.take_length]; exact hR.bk
              have hsome : lookT (kvsOf q ts ts.length) (sKey (sAt q ts ts.length)) = some (at_ : Int) := look_some hR.ln hat.symm fun j hj => by
                rw [hat]; exact hR.ds j at_ hj hR.ln
              refine ⟨?_, ?_⟩
              · with_reducible apply et_is
                · walk_at "ev"
                · rw [trip_len]; simp; omega
              · with_reducible apply xs_set (d := .int at_)
                · with_reducible apply ev_is
                  · exact ev_dget (k := 6) (kvs := kvsOf q ts ts.length) (ks := sKey (sAt q ts ts.length)) rfl (ea_cons (ev_var rfl) (ea_cons (ev_var rfl) (ea_cons (ev_var rfl) ea_nil))) (by simp [sKey])
                  · rw [hsome]; rfl
                · dsimp only [List.set]
                  refine x_seq (x_app (k := 7) (d := sTup (sAt q ts ts.length)) (ds0 := trip q ts ts.length) (ds := trip q ts ts.length) (tg := none) (Δ1 := [.fr (dR K q), .fr (.int 1000), .fr (.int s), .fr (.int (sAt q ts ts.length).a), .fr (.int (sAt q ts ts.length).b), .fr (.int (sAt q ts ts.length).c), Sl.ofT (kvsOf q ts ts.length), .ow none (trip q ts ts.length), .ow none (dI (ts.take ts.length)), .fr (.int at_), .un]) rfl (ev_tup (ea_cons (ev_var rfl) (ea_cons (ev_var rfl) (ea_cons (ev_var rfl) ea_nil))) (by simp)) rfl (by rw [trip_len]; omega)) ?_
                  rw [← trip_succ]
                  dsimp only [List.set]
                  refine x_seq_rp ?_
                  with_reducible apply x_if_t
                  · with_reducible apply et_is
                    · walk_at "ev"
                    · rfl
                  · rw [List.take_length]
                    exact x_retW (i := 7) (j := 8) (k := 9) rfl rfl rfl (by decide)
  exact (B.raw hb .nil).imp fun vs H Q E h => by rw [List.append_nil]; exact h
def rollT (ts : List Int) (a : Nat) : List Int := if a = 0 then ts ++ [ts.getD 0 0] else ts
def rollA (a : Nat) : Nat := if a = 0 then 1 else a
def rollS (q : Gd.Qf) (ts : List Int) (a : Nat) : List D := if a = 0 then trip q ts (ts.length + 1) ++ [sTup (sAt q ts 1)] else trip q ts (ts.length + 1)
inductive rSettled (K : Frag) : List D → D → Prop
  | mk (q : Gd.Qf) (s : Int) (ts : List Int) (a k : Nat) (h : Rolls q s ts a k) (hS : Gd.Side q.disc s) (hb : Bd 11999 q.disc) (hz : ts.length ≤ 999) : rSettled K [dR K q] (.tup [.lst (rollS q ts a), .lst (dI (rollT ts a)), .int (rollA a)])
abbrev N__settled : List Str := [("root" : Str), ("found" : Str), ("triples" : Str), ("turns" : Str), ("at" : Str)]
theorem sc__settled : FnScope N__settled [("root" : Str)] (defScope s__settled) := ⟨rfl, rfl, rfl, by decide +kernel, rfl, by decide +kernel, by decide +kernel⟩
theorem ok__settled {f : Addr} {fd : FuncData} (F : FunD K "_settled" "_settled" (defArgs s__settled) (defBody s__settled) (defScope s__settled) [] [] f fd) (hb : Binds K fd [("root" : Str)] []) (T : Txt K mg) (h__walk : Fn P w K mg base "_walk" 2 (spW K 2 (rWalk K))) : FnR P w K mg base CX0 3 f (spD K 1 (rSettled K)) := by
  obtain ⟨tk_LIMIT, hg_LIMIT⟩ := T.g_LIMIT
  have B : FnOk P w K mg base CX0 3 f fd [("root" : Str)] (spD K 1 (rSettled K)) := by
    refine F.ok sc__settled (fun vs H Q E h => h.1) (fun cdv A outer s H vs Q E hr h => ?_)
    have hr2 : Room 2 _ := hr.mono (by decide)
    have hu := hr.units
    have hu1 : _ + 1 < cLine := Nat.lt_of_le_of_lt (Nat.add_le_add_left (by decide : 1 ≤ 64) _) hr.units
    have nd := sc__settled.nd
    refine ⟨_, PSs.nox (pss_cons (ps_set (i := 1) nd rfl (Or.inl rfl) (pe_fn h__walk hr2 rfl (pa_cons (pv 0) (pa_cons (pe_glob (v := .int 1000) rfl hg_LIMIT ⟨_, rfl⟩) pa_nil))))
      (pss_cons (ps_if (pt_cmpR op_isN (pv 1) pe_non (nomark _)) pss_never pss_nil)
      (pss_cons (ps_asg (pv 1) (pg_tup rfl (pgs_cons (pg_name (i := 2) nd rfl (Or.inl rfl)) (pgs_cons (pg_name (i := 3) nd rfl (Or.inl rfl)) (pgs_cons (pg_name (i := 4) nd rfl (Or.inl rfl)) pgs_nil)))))
      (pss_cons (ps_if (pt_cmpR op_eq (pv 4) pe_int (nomark _)) (pss_cons (ps_expr (pe_bm PySem.F.plainAttrs_list PySem.F.slot_list_append PySem.F.type_list_append mt_append (pv 2) (pa_cons (pe_ix (show IxR _ (rIx K) from ix_seq) (pv 2) pe_int (fun _ _ => rfl)) pa_nil)))
        (pss_cons (ps_expr (pe_bm PySem.F.plainAttrs_list PySem.F.slot_list_append PySem.F.type_list_append mt_append (pv 3) (pa_cons (pe_ix (show IxR _ (rIx K) from ix_seq) (pv 3) pe_int (fun _ _ => rfl)) pa_nil)))
        (pss_one (ps_set (i := 4) nd rfl (Or.inl rfl) pe_int)))) pss_nil)
      (pss_cons (ps_if (pt_cmpR op_gt (pe_callB call_lenA (by rfl) T.b_len (by decide +kernel) (pa_cons (pv 3) pa_nil)) (pe_glob (v := .int 1000) rfl hg_LIMIT ⟨_, rfl⟩) (nomark _)) pss_never pss_nil)
      (pss_one (ps_ret (pe_tup (pa_cons (pv 2) (pa_cons (pv 3) (pa_cons (pv 4) pa_nil))))))))))), enter h (by decide) ?_⟩
    rintro _ _ ⟨q, s, ts, at_, k, hR, hS, hb, hz⟩ _
    left
    show ExD K _ [.fr (dR K q), .un, .un, .un, .un] _
    walk_at "clean"
    have hln := hR.ln
    refine xs_unpackW (R := rWalk K) (ds := [dR K q, .int 1000]) (Δ1 := [.fr (dR K q), .un, .un, .un, .un]) (ea_cons (ev_var rfl) (ea_cons ev_int ea_nil)) rfl (.mk q s ts at_ k hR hS hb (by omega)) (by simp) ?_
    dsimp only [List.set]
    by_cases h0 : at_ = 0
    · have e1 : rollS q ts at_ = trip q ts (ts.length + 1) ++ [sTup (sAt q ts 1)] := by unfold rollS; rw [if_pos h0]
      have e2 : rollT ts at_ = ts ++ [ts.getD 0 0] := by unfold rollT; rw [if_pos h0]
      have e3 : rollA at_ = 1 := by unfold rollA; rw [if_pos h0]
      rw [e1, e2, e3]
      with_reducible apply xs_if_t (Δ2 := [.fr (dR K q), .un, .ow none (trip q ts (ts.length + 1) ++ [sTup (sAt q ts 1)]), .ow none (dI (ts ++ [ts.getD 0 0])), .fr (.int 1)])
      · walk_at "ev"
      · simp; exact h0
      · refine x_seq (x_app (k := 2) (d := sTup (sAt q ts 1)) (ds0 := trip q ts (ts.length + 1)) (ds := trip q ts (ts.length + 1)) (tg := none) (Δ1 := [.fr (dR K q), .un, .ow none (trip q ts (ts.length + 1)), .ow none (dI ts), .fr (.int at_)]) rfl (ev_ixO (k := 2) (t := none) (ds := trip q ts (ts.length + 1)) (i := 1) ⟨_, rfl, rfl⟩ ev_int rfl ?_) rfl (by rw [trip_len]; omega)) ?_
        · apply atI_nat (i := 1)
          unfold trip
          rw [List.getElem?_map, List.getElem?_range (by omega)]; rfl
        · dsimp only [List.set]
          refine x_seq (x_app (k := 3) (d := .int (ts.getD 0 0)) (ds0 := dI ts) (ds := dI ts) (tg := none) (Δ1 := [.fr (dR K q), .un, .ow none (trip q ts (ts.length + 1) ++ [sTup (sAt q ts 1)]), .ow none (dI ts), .fr (.int at_)]) rfl (ev_ixO (k := 3) (t := none) (ds := dI ts) (i := 0) ⟨_, rfl, rfl⟩ ev_int rfl (dI_nat (i := 0) (by omega))) rfl (by simp; omega)) ?_
          rw [← dI_snoc]
          dsimp only [List.set]
          exact x_to (x_set ev_int) rfl
      · with_reducible apply xs_guard
        · walk_at "ev"
        · simp; omega
        · refine x_freeze (i := 2) rfl ?_
          refine x_freeze (i := 3) rfl ?_
          dsimp only [List.set]
          walk_at "ret"
    · have e1 : rollS q ts at_ = trip q ts (ts.length + 1) := by unfold rollS; rw [if_neg h0]
      have e2 : rollT ts at_ = ts := by unfold rollT; rw [if_neg h0]
      have e3 : rollA at_ = at_ := by unfold rollA; rw [if_neg h0]
      rw [e1, e2, e3]
      with_reducible apply xs_skip
      · walk_at "ev"
      · simp; exact h0
      · with_reducible apply xs_guard
        · walk_at "ev"
        · simp; omega
        · refine x_freeze (i := 2) rfl ?_
          refine x_freeze (i := 3) rfl ?_
          dsimp only [List.set]
          walk_at "ret"
  exact (B.raw hb .nil).imp fun vs H Q E h => by rw [List.append_nil]; exact h
inductive rRowOf (K : Frag) : List D → D → Prop
  | mk (q : Gd.Qf) (f r : List Int) (s : Int) (ts : List Int) (a k : Nat) (h : Rolls q s ts a k) (hS : Gd.Side q.disc s) (hb : Bd 11999 q.disc) (hz : ts.length ≤ 900) (e : rollT ts a = f ++ r) (ea : rollA a = f.length) (hO : Gd.OneF f r) (hf : Gd.Pos f.tail) (hr : Gd.Pos r) : rRowOf K [dR K q] (dW K f r)
abbrev N_row_of : List Str := [("root" : Str), ("_" : Str), ("turns" : Str), ("at" : Str), ("turn" : Str)]
theorem sc_row_of : FnScope N_row_of [("root" : Str)] (defScope s_row_of) := ⟨rfl, rfl, rfl, by decide +kernel, rfl, by decide +kernel, by decide +kernel⟩
theorem ok_row_of {f : Addr} {fd : FuncData} (F : FunD K "row_of" "row_of" (defArgs s_row_of) (defBody s_row_of) (defScope s_row_of) [] [] f fd) (hb : Binds K fd [("root" : Str)] []) (T : Txt K mg) (h__settled : Fn P w K mg base "_settled" 3 (spD K 1 (rSettled K))) (h_Rowd_initd : Mkr P w K mg base "Row" (cRow K) 4 (spI K (cRow K) 2 rRowI)) : FnR P w K mg base CX0 6 f (spD K 1 (rRowOf K)) := by
  have B : FnOk P w K mg base CX0 6 f fd [("root" : Str)] (spD K 1 (rRowOf K)) := by
    refine F.ok sc_row_of (fun vs H Q E h => h.1) (fun cdv A outer s H vs Q E hr h => ?_)
    have hr3 : Room 3 _ := hr.mono (by decide)
    have hr4 : Room 4 _ := hr.mono (by decide)
    have hr5 : Room 5 _ := hr.mono (by decide)
    have hu := hr.units
    have hu1 : _ + 1 < cLine := Nat.lt_of_le_of_lt (Nat.add_le_add_left (by decide : 1 ≤ 64) _) hr.units
    have nd := sc_row_of.nd
    refine ⟨_, PSs.nox (pss_cons (ps_asg (pe_fn h__settled hr3 rfl (pa_cons (pv 0) pa_nil)) (pg_tup rfl (pgs_cons (pg_name (i := 1) nd rfl (Or.inl rfl)) (pgs_cons (pg_name (i := 2) nd rfl (Or.inl rfl)) (pgs_cons (pg_name (i := 3) nd rfl (Or.inl rfl)) pgs_nil)))))
      (pss_one (ps_ret (pe_mkr h_Rowd_initd hr5 rfl (pa_cons (pe_slice sl_any (pv 2) po_none (po_some (pv 3))) (pa_cons (pe_lc (own := [(("turn" : Str), 4)]) rfl nd (pi_seq (pe_slice sl_any (pv 2) (po_some (pv 3)) po_none)) (blkOk_by (N := N_row_of) (sc := defScope s_row_of) (by decide +kernel)) (fun _ _ _ _ _ => (pg_name (i := 4) nd rfl (Or.inl rfl))) (fun _ _ _ _ _ => pts_nil) (fun _ _ _ _ _ => (pe_tup (pa_cons (pv 4) (pa_cons pe_int pa_nil))))) pa_nil)))))), enter h (by decide) ?_⟩
    rintro _ _ ⟨q, f, r, s, ts, at_, k, hR, hS, hb, hz, e, ea, hO, hf, hr⟩ _
    left
    show ExD K _ [.fr (dR K q), .un, .un, .un, .un] _
    walk_at "clean"
    have hlen : f.length + r.length ≤ 901 := by
      have := congrArg List.length e
      rw [List.length_append] at this
      unfold rollT at this
      split at this
      · rw [List.length_append, List.length_singleton] at this; omega
      · omega
    have hbd : ∀ x ∈ r, Bd k x := fun x hx => by
      have : x ∈ rollT ts at_ := by rw [e]; exact List.mem_append_right _ hx
      unfold rollT at this
      split at this
      · rcases List.mem_append.mp this with h | h
        · exact hR.tb x h
        · rw [List.mem_singleton] at h
          rw [h]; exact getD_bd hR.tb (by have := hR.ln; omega)
      · exact hR.tb x this
    obtain ⟨o1, o2⟩ := hO.same
    have hset := rSettled.mk (K := K) q s ts at_ k hR hS hb (by omega)
    rw [e, ea] at hset
    with_reducible apply xs_as3
    · walk_at "ev"
      exact hset
    · dsimp only [List.set]
      with_reducible apply x_ret
      with_reducible apply ev_make'
      · with_reducible apply ea_cons (d := .lst (dI f))
        · with_reducible apply ev_l
          with_reducible apply el_is
          · with_reducible apply el_sl
            · walk_at "ev"
            · exact eo_none
            · with_reducible apply eo_some
              walk_at "ev"
          · rw [cutD_take (by simp), dI, ← List.map_take, List.take_left]
        · with_reducible apply ea_cons (d := .lst (dP r))
          · with_reducible apply ev_l
            refine el_is (el_lcA (ds := dI r) (Δ0 := [.fr (dR K q), .fr (.lst (rollS q ts at_)), .fr (.lst (dI (f ++ r))), .fr (.int f.length), .un]) (fun i => dPr (r.getD i 0)) ?_ (gn_name (by decide)) gm_name (hnoB rfl) (by simp; omega) ?_) ?_
            · refine ei_seq (x := .lst (dI r)) ?_ rfl
              with_reducible apply ev_l
              with_reducible apply el_is
              · with_reducible apply el_sl
                · walk_at "ev"
                · with_reducible apply eo_some
                  walk_at "ev"
                · exact eo_none
              · rw [cutD_drop (by simp), dI, ← List.map_drop, List.drop_left]
            · intro i d hd
              obtain ⟨t, ht, rfl⟩ := dI_get hd
              have e : r.getD i 0 = t := by rw [List.getD_eq_getElem?_getD, ht]; rfl
              rw [e]
              refine ⟨[.fr (dR K q), .fr (.lst (rollS q ts at_)), .fr (.lst (dI (f ++ r))), .fr (.int f.length), .fr (.int t)], as_name, rfl, ?_⟩
              walk_at "ev"
            · rw [List.length_map]
              apply List.ext_getElem
              · simp
              · intro i h1 h2
                simp only [List.length_map, List.length_range] at h1
                simp [List.getD_eq_getElem?_getD, h1]
          · exact ea_nil
      · rfl
      · refine ⟨_, _, f, r, k, rfl, rfl, rfl, hO.f0, hO.r0, hf, hr, by omega, by omega, hbd, by have := hR.kz; omega, rfl, ?_⟩
        rw [o1, o2]
  exact (B.raw hb .nil).imp fun vs H Q E h => by rw [List.append_nil]; exact h
theorem tin_front {f r : List Int} (r0 : r ≠ []) : (List.range f.length).map (tin f r) = f := by
  have := tin_unroll (f := f) r0 0
  simp only [Nat.add_zero] at this
  rw [← this]
  simp
theorem tin_all {f r : List Int} (r0 : r ≠ []) : (List.range (f.length + r.length)).map (tin f r) = f ++ r := by
  rw [← tin_unroll r0]
  congr 1
  apply List.ext_getElem
  · simp
  · intro i h1 h2
    simp only [List.length_map, List.length_range] at h1
    rw [List.getElem_map, List.getElem_range, Gd.rt_nat r0, Nat.mod_eq_of_lt h1, List.getD_eq_getElem?_getD, List.getElem?_eq_getElem h1]; rfl
inductive rKeeper (K : Frag) : List D → D → Prop
  | mk (q : Gd.Qf) (f r : List Int) (b : Nat) (h : rRowOf K [dR K q] (dW K f r)) (hO : RowOk f r b) (hz : f.length + r.length ≤ 900) (hb : (f.length + r.length) * (b + 1) + b ≤ 100000) : rKeeper K [dR K q] (dT K ((Gd.prod (f ++ r)).mul (Gd.prod f).inv))
abbrev N_keeper : List Str := [("root" : Str), ("row" : Str), ("many" : Str), ("to_end" : Str)]
theorem sc_keeper : FnScope N_keeper [("root" : Str)] (defScope s_keeper) := ⟨rfl, rfl, rfl, by decide +kernel, rfl, by decide +kernel, by decide +kernel⟩
theorem ok_keeper {f : Addr} {fd : FuncData} (F : FunD K "keeper" "keeper" (defArgs s_keeper) (defBody s_keeper) (defScope s_keeper) [] [] f fd) (hb : Binds K fd [("root" : Str)] []) (T : Txt K mg) (h_row_of : Fn P w K mg base "row_of" 6 (spD K 1 (rRowOf K))) (h_Row_table : Me P w K mg base (cRow K) "table" 5 (spD K 2 (rRowTable K))) (h_Tabled_muld : Op2 P w K mg base (cTable K) .Mult 3 (spD K 2 (rTMul K))) (h_Table_inverse : Me P w K mg base (cTable K) "inverse" 4 (spD K 1 (rTInv K))) : FnR P w K mg base CX0 7 f (spD K 1 (rKeeper K)) := by
  have B : FnOk P w K mg base CX0 7 f fd [("root" : Str)] (spD K 1 (rKeeper K)) := by
    refine F.ok sc_keeper (fun vs H Q E h => h.1) (fun cdv A outer s H vs Q E hr h => ?_)
    have hr3 : Room 3 _ := hr.mono (by decide)
    have hr4 : Room 4 _ := hr.mono (by decide)
    have hr5 : Room 5 _ := hr.mono (by decide)
    have hr6 : Room 6 _ := hr.mono (by decide)
    have hu := hr.units
    have hu1 : _ + 1 < cLine := Nat.lt_of_le_of_lt (Nat.add_le_add_left (by decide : 1 ≤ 64) _) hr.units
    have nd := sc_keeper.nd
    refine ⟨_, PSs.nox (pss_cons (ps_set (i := 1) nd rfl (Or.inl rfl) (pe_fn h_row_of hr6 rfl (pa_cons (pv 0) pa_nil)))
      (pss_cons (ps_set (i := 2) nd rfl (Or.inl rfl) (pe_callB call_lenA (by rfl) T.b_len (by decide +kernel) (pa_cons (pe_fld (pv 1) rfl) pa_nil)))
      (pss_cons (ps_set (i := 3) nd rfl (Or.inl rfl) (pe_me h_Row_table hr5 T.clRow (pv 1) (pa_cons (pe_op op_add (pv 2) (pe_callB call_lenA (by rfl) T.b_len (by decide +kernel) (pa_cons (pe_fld (pv 1) rfl) pa_nil))) pa_nil)))
      (pss_one (ps_ret (pe_op (op_op2 h_Tabled_muld hr3) (pv 3) (pe_me0 h_Table_inverse hr4 T.clTable (pe_me h_Row_table hr5 T.clRow (pv 1) (pa_cons (pv 2) pa_nil))))))))), enter h (by decide) ?_⟩
    rintro _ _ ⟨q, f, r, b, hR, hO, hz, hb⟩ _
    left
    show ExD K _ [.fr (dR K q), .un, .un, .un] _
    walk_at "clean"
    have h1 := rRowTable.mk (K := K) f r b (f.length + r.length) hO (by omega) (by omega)
    rw [tin_all hO.r0] at h1
    have hfb : f.length * (b + 1) ≤ (f.length + r.length) * (b + 1) := Nat.mul_le_mul_right _ (by omega)
    have h2 := rRowTable.mk (K := K) f r b f.length hO (by omega) (by omega)
    rw [tin_front hO.r0] at h2
    have b1 : BdT _ (Gd.prod (f ++ r)) := BdT.prod (l := b) fun t h => (List.mem_append.mp h).elim (hO.fb t) (hO.rb t)
    have b2 : BdT _ (Gd.prod f) := BdT.prod (l := b) hO.fb
    rw [List.length_append] at b1
    with_reducible apply xs_set
    · walk_at "ev"
      exact hR
    · dsimp only [List.set]
      with_reducible apply xs_set (d := .int f.length)
      · with_reducible apply ev_is
        · walk_at "ev"
        · rw [List.length_map]
      · dsimp only [List.set]
        with_reducible apply xs_set (d := dT K (Gd.prod (f ++ r)))
        · with_reducible apply ev_meth'
          · walk_at "ev"
          · with_reducible apply ea_cons (d := .int ((f.length + r.length : Nat) : Int))
            · with_reducible apply ev_is
              · walk_at "ev"
              · rw [List.length_map]; rfl
            · exact ea_nil
          · rfl
          · rfl
          · exact h1
        · dsimp only [List.set]
          with_reducible apply x_ret
          with_reducible apply ev_own2
          · walk_at "ev"
          · with_reducible apply ev_meth' (ds := [])
            · with_reducible apply ev_meth'
              · walk_at "ev"
              · walk_at "ev"
              · rfl
              · rfl
              · exact h2
            · exact ea_nil
            · rfl
            · rfl
            · exact .mk _ _ b2 (by omega) (Gd.det_prod_or f)
          · rfl
          · exact .mk _ _ _ _ b1 b2.inv (by omega)
  exact (B.raw hb .nil).imp fun vs H Q E h => by rw [List.append_nil]; exact h
inductive rRootOf (K : Frag) : List D → D → Prop
  | mk (f r : List Int) (l m bb : Nat) (S : Int) (hr : ∀ x ∈ r, Bd bb x) (hf : ∀ x ∈ f, Bd bb x) (hz : r.length ≤ 200) (fz : f.length ≤ 200) (hbb : bb ≤ 200) (h0 : (Gd.Qf.keep (Gd.prod r)).a ≠ 0) (hS : Gd.Side (Gd.Qf.keep (Gd.prod r)).disc S) (br : BdT l (Gd.prod r)) (bf : BdT m (Gd.prod f)) (e : l + 2 * m < 500) : rRootOf K [dW K f r] (dR K ((Gd.Qf.keep (Gd.prod r)).redu.moved (Gd.prod f)))
abbrev N_root_of : List Str := [("row" : Str), ("around" : Str), ("rest" : Str), ("start" : Str), ("_" : Str)]
theorem sc_root_of : FnScope N_root_of [("row" : Str)] (defScope s_root_of) := ⟨rfl, rfl, rfl, by decide +kernel, rfl, by decide +kernel, by decide +kernel⟩
theorem ok_root_of {f : Addr} {fd : FuncData} (F : FunD K "root_of" "root_of" (defArgs s_root_of) (defBody s_root_of) (defScope s_root_of) [] [] f fd) (hb : Binds K fd [("row" : Str)] []) (T : Txt K mg) (h_turns_table : Fn P w K mg base "turns_table" 3 (spD K 1 (rTurnsTable K))) (h_Rootd_initd : Mkr P w K mg base "Root" (cRoot K) 2 (spI K (cRoot K) 3 rRootI)) (h_Root_moved : Me P w K mg base (cRoot K) "moved" 4 (spD K 2 (rRootMoved K))) : FnR P w K mg base CX0 5 f (spD K 1 (rRootOf K)) := by
  have B : FnOk P w K mg base CX0 5 f fd [("row" : Str)] (spD K 1 (rRootOf K)) := by
    refine F.ok sc_root_of (fun vs H Q E h => h.1) (fun cdv A outer s H vs Q E hr h => ?_)
    have hr2 : Room 2 _ := hr.mono (by decide)
    have hr3 : Room 3 _ := hr.mono (by decide)
    have hr4 : Room 4 _ := hr.mono (by decide)
    have hu := hr.units
    have hu1 : _ + 1 < cLine := Nat.lt_of_le_of_lt (Nat.add_le_add_left (by decide : 1 ≤ 64) _) hr.units
    have nd := sc_root_of.nd
    refine ⟨_, PSs.nox (pss_cons (ps_if (pt_cmpR op_ne (pe_fld (pv 0) rfl) pe_str (nomark _)) pss_never pss_nil)
      (pss_cons (ps_set (i := 1) nd rfl (Or.inl rfl) (pe_fn h_turns_table hr3 rfl (pa_cons (pe_lc (own := [(("start" : Str), 3), (("_" : Str), 4)]) rfl nd (pi_seq (pe_fld (pv 0) rfl)) (blkOk_by (N := N_root_of) (sc := defScope s_root_of) (by decide +kernel)) (fun _ _ _ _ _ => (show PG _ _ (gTup K 2 _) from (pg_tup rfl (pgs_cons (pg_name (i := 3) nd rfl (Or.inl rfl)) (pgs_cons (pg_name (i := 4) nd rfl (Or.inl rfl)) pgs_nil))))) (fun _ _ _ _ _ => pts_nil) (fun _ _ _ _ _ => (pv 3))) pa_nil)))
      (pss_cons (ps_set (i := 2) nd rfl (Or.inl rfl) (pe_mkr h_Rootd_initd hr3 rfl (pa_cons (pe_fld (pv 1) rfl) (pa_cons (pe_op op_sub (pe_fld (pv 1) rfl) (pe_fld (pv 1) rfl)) (pa_cons (pe_un un_neg (pe_fld (pv 1) rfl)) pa_nil)))))
      (pss_one (ps_ret (pe_me h_Root_moved hr4 T.clRoot (pv 2) (pa_cons (pe_fn h_turns_table hr3 rfl (pa_cons (pe_fld (pv 0) rfl) pa_nil)) pa_nil))))))), enter h (by decide) ?_⟩
    rintro _ _ ⟨f, r, l, m, bb, S, hr, hf, hz, fz, hbb, h0, hS, br, bf, e⟩ _
    left
    show ExD K _ [.fr (dW K f r), .un, .un, .un, .un] _
    walk_at "clean"
    have mul1 : r.length * (bb + 1) ≤ 200 * 201 := Nat.mul_le_mul hz (by omega)
    have mul2 : f.length * (bb + 1) ≤ 200 * 201 := Nat.mul_le_mul fz (by omega)
    obtain ⟨hpr, hcp⟩ := Gd.Qf.redu_pr h0
    have hsc := (Gd.Qf.keep (Gd.prod r)).redu_scale
    have kb : BdQ (l + 1) (Gd.Qf.keep (Gd.prod r)) := by
      refine ⟨br.c.le (by omega), ?_, br.b.neg.le (by omega)⟩
      show Bd (l + 1) ((Gd.prod r).d - (Gd.prod r).a)
      rw [Int.sub_eq_add_neg]
      exact br.d.addm br.a.neg
    generalize hq : Gd.Qf.keep (Gd.prod r) = q at *
    have hcont : Bd (l + 1) (q.cont : Int) := by
      have h1 : q.cont ∣ q.a.natAbs := Nat.dvd_trans (Nat.gcd_dvd_left _ _) (Nat.gcd_dvd_left _ _)
      have h2 : q.cont ≤ q.a.natAbs := Nat.le_of_dvd (by omega) h1
      have := kb.a
      unfold Bd at *
      omega
    have kr : BdQ (l + 1) q.redu := ⟨kb.a.ediv (by omega), kb.b.ediv (by omega), kb.c.ediv (by omega)⟩
    have ea : (q.cont : Int) * q.redu.a = q.a := congrArg Gd.Qf.a hsc
    have eb : (q.cont : Int) * q.redu.b = q.b := congrArg Gd.Qf.b hsc
    have ec : (q.cont : Int) * q.redu.c = q.c := congrArg Gd.Qf.c hsc
    obtain ⟨S2, hS2⟩ := Gd.side_unscale (D := q.redu.disc) (k := q.cont) (S := S) (by omega) (by
      rw [← Gd.Qf.disc_scale, hsc]; exact hS)
    have hI : rRootI [.int (Gd.prod r).c, .int ((Gd.prod r).d - (Gd.prod r).a), .int (-(Gd.prod r).b)] nR [.int q.redu.a, .int q.redu.b, .int q.redu.c, .int q.redu.disc] := by
      refine ⟨q.redu, q.cont, S, l + 1, ?_, hcp, hpr, ?_, ?_, ?_, ?_, hcont, by omega, rfl, rfl⟩
      · rw [ea, eb, ec, ← hq]; rfl
      · rw [hsc]; exact hS
      · rw [ea]; exact kb.a
      · rw [eb]; exact kb.b
      · rw [ec]; exact kb.c
    with_reducible apply xs_guard
    · walk_at "ev"
    · rfl
    · with_reducible apply xs_set (d := dT K (Gd.prod r))
      · with_reducible apply ev_call'
        · with_reducible apply ea_cons (d := .lst (dI r))
          · with_reducible apply ev_l
            refine el_is (el_lcA (ds := dP r) (Δ0 := [.fr (dW K f r), .un, .un, .un, .un]) (fun i => .int (r.getD i 0)) ?_ (gn_tup (gn_cons gm_name (gn_name (by decide)) (gm_cons gm_name gm_nil) (gn_cons gm_name (gn_name (by decide)) gm_nil gn_nil))) (gm_tup (gm_cons gm_name (gm_cons gm_name gm_nil))) (hnoB rfl) (by simp; omega) ?_) ?_
            · refine ei_seq (x := .tup (dP r)) ?_ rfl
              walk_at "ev"
            · intro i d hd
              obtain ⟨t, ht, rfl⟩ := dP_get hd
              have e : r.getD i 0 = t := by rw [List.getD_eq_getElem?_getD, ht]; rfl
              rw [e]
              refine ⟨[.fr (dW K f r), .un, .un, .fr (.int t), .fr (.int 0)], as_tup (as_cons as_name (as_cons as_name as_nil)) rfl, rfl, ?_⟩
              walk_at "ev"
            · rw [List.length_map]
              apply List.ext_getElem
              · simp
              · intro i h1 h2
                simp only [List.length_map, List.length_range] at h1
                simp [List.getD_eq_getElem?_getD, h1]
          · exact ea_nil
        · rfl
        · exact .mk _ r bb rfl hr (by omega)
      · dsimp only [List.set]
        with_reducible apply xs_set (d := dR K q.redu)
        · with_reducible apply ev_make'
          · walk_at "ev"
          · rfl
          · exact hI
        · dsimp only [List.set]
          with_reducible apply x_ret
          with_reducible apply ev_meth'
          · walk_at "ev"
          · with_reducible apply ea_cons (d := dT K (Gd.prod f))
            · walk_at "ev"
              exact .mk _ f bb rfl hf (by omega)
            · exact ea_nil
          · rfl
          · rfl
          · exact .mk q.redu f S2 (l + 1) m hpr hS2 kr bf (by omega)
  exact (B.raw hb .nil).imp fun vs H Q E h => by rw [List.append_nil]; exact h
end
end Gw


set_option Elab.async false
set_option linter.all false
set_option maxRecDepth 100000
set_option maxHeartbeats 4000000
namespace Gw
open PySem PySem.Spec PyProof.Rows L2 DL
local macro_rules | `(tactic| walk_at "bd") => `(tactic| first
  | assumption
  | exact Bd.i0 | exact Bd.i1 | exact Bd.i2 | exact Bd.i4 | exact Bd.m2 | exact Bd.m1
  | ((with_reducible apply BdT.a) <;> assumption) | ((with_reducible apply BdT.b) <;> assumption) | ((with_reducible apply BdT.c) <;> assumption) | ((with_reducible apply BdT.d) <;> assumption)
  | ((with_reducible apply Bd.mul) <;> walk_at "bd")
  | ((with_reducible apply Bd.add) <;> walk_at "bd")
  | ((with_reducible apply Bd.sub) <;> walk_at "bd")
  | ((with_reducible apply Bd.neg) <;> walk_at "bd"))
local macro_rules | `(tactic| walk_at "ev") => `(tactic| first
  | ((with_reducible show ExD _ _ _ _); try dsimp only [List.set])
  | with_reducible exact ev_int | with_reducible exact ev_non | with_reducible exact ev_bl | with_reducible exact ev_str
  | ((with_reducible apply ev_var); exact rfl)
  | with_reducible exact ea_nil
  | ((with_reducible apply ea_cons) <;> walk_at "ev")
  | ((with_reducible apply ev_add) <;> walk_at "ev")
  | ((with_reducible apply ev_sub) <;> walk_at "ev")
  | ((with_reducible apply ev_mul) <;> walk_at "ev")
  | ((with_reducible apply ev_fdiv) <;> walk_at "ev")
  | ((with_reducible apply ev_mod) <;> walk_at "ev")
  | ((with_reducible apply ev_lt) <;> walk_at "ev")
  | ((with_reducible apply ev_le) <;> walk_at "ev")
  | ((with_reducible apply ev_gt) <;> walk_at "ev")
  | ((with_reducible apply ev_ge) <;> walk_at "ev")
  | ((with_reducible apply ev_eqS (tb := tC (V.str _)) (hb := ev_str)) <;> walk_at "ev")
  | ((with_reducible apply ev_neS (tb := tC (V.str _)) (hb := ev_str)) <;> walk_at "ev")
  | ((with_reducible apply ev_eqI) <;> walk_at "ev")
  | ((with_reducible apply ev_neI) <;> walk_at "ev")
  | ((with_reducible apply ev_neg) <;> walk_at "ev")
  | ((with_reducible apply ev_gcd) <;> walk_at "ev")
  | ((with_reducible apply ev_fld) <;> walk_at "ev")
  | ((with_reducible apply et_test) <;> walk_at "ev")
  | ((with_reducible apply et_B) <;> walk_at "ev")
  | ((with_reducible apply et_not) <;> walk_at "ev")
  | ((with_reducible apply ev_tup) <;> walk_at "ev")
  | ((with_reducible apply ev_make') <;> walk_at "ev")
  | ((with_reducible apply ev_call') <;> walk_at "ev")
  | ((with_reducible apply ev_meth') <;> walk_at "ev")
  | ((with_reducible show List.length _ = _); exact rfl)
  | ((with_reducible show List.length _ + 1 = _); exact rfl)
  | ((with_reducible show List.lookup _ _ = _); exact rfl)
  | ((with_reducible apply et_or') <;> walk_at "ev")
  | ((with_reducible apply et_and') <;> walk_at "ev")
  | ((with_reducible apply ev_own2) <;> walk_at "ev")
  | ((with_reducible apply ev_own1) <;> walk_at "ev")
  | ((with_reducible apply ev_st) <;> walk_at "ev")
  | ((with_reducible apply ev_abs) <;> walk_at "ev")
  | ((with_reducible apply ev_max2) <;> walk_at "ev")
  | ((with_reducible apply ev_divmod) <;> walk_at "ev")
  | ((with_reducible apply ev_intI) <;> walk_at "ev")
  | ((with_reducible apply ev_isN) <;> walk_at "ev")
  | ((with_reducible apply ev_notN) <;> walk_at "ev")
  | ((with_reducible apply ev_eqS) <;> walk_at "ev")
  | ((with_reducible apply ev_neS) <;> walk_at "ev")
  | ((with_reducible apply ev_lenO); exact rfl)
  | ((with_reducible apply ev_len) <;> walk_at "ev")
  | ((with_reducible show D.items _ = _); first | assumption | exact rfl)
  | ((with_reducible show rTableI _ _ _); exact ⟨rfl, rfl⟩)
  | ((with_reducible show _ = false); first | rfl | (simp; done) | (simp; omega))
  | ((with_reducible show _ = true); first | rfl | (simp; done) | (simp; omega))
  | ((with_reducible show 2 = _); exact rfl)
  | ((with_reducible show 1 = _); exact rfl)
  | exact Txt.clTable ‹_› | exact Txt.clFrac ‹_› | exact Txt.clRow ‹_› | exact Txt.clRoot ‹_›
  | exact Txt.nTable_a ‹_› | exact Txt.nTable_b ‹_› | exact Txt.nTable_c ‹_› | exact Txt.nTable_d ‹_› | exact Txt.nFrac_top ‹_› | exact Txt.nFrac_bottom ‹_›
  | exact Txt.nRow_head ‹_› | exact Txt.nRow_loop ‹_› | exact Txt.nRow_kind ‹_› | exact Txt.nRoot_a ‹_› | exact Txt.nRoot_b ‹_› | exact Txt.nRoot_c ‹_› | exact Txt.nRoot_disc ‹_›
  | ((with_reducible apply Bd.cm) <;> first | walk_at "bd" | omega)
  | ((with_reducible show _ ≤ _); simp only [List.length_cons, List.length_nil]; omega)
  | ((with_reducible intro _); walk_at "ev")
  | skip)
local macro_rules | `(tactic| walk_at "set") => `(tactic| ((with_reducible apply xs_set) <;> walk_at "ev"))
local macro_rules | `(tactic| walk_at "ret") => `(tactic| ((with_reducible apply x_ret) <;> walk_at "ev"))
local macro_rules | `(tactic| walk_at "as4") => `(tactic| ((with_reducible (first | apply xs_as4 | apply xl_as4)) <;> walk_at "ev"))
local macro_rules | `(tactic| walk_at "as3") => `(tactic| ((with_reducible (first | apply xs_as3 | apply xl_as3)) <;> walk_at "ev"))
local macro_rules | `(tactic| walk_at "as2") => `(tactic| ((with_reducible (first | apply xs_as2 | apply xl_as2)) <;> walk_at "ev"))
local macro_rules | `(tactic| walk_at "par") => `(tactic| ((with_reducible (first | apply xs_par | apply x_par)) <;> walk_at "ev"))
local macro_rules | `(tactic| walk_at "fld") => `(tactic| ((with_reducible (first | apply xs_fld | apply x_fld)) <;> first | exact rfl | decide | walk_at "ev"))
local macro_rules | `(tactic| walk_at "guard") => `(tactic| ((with_reducible apply xs_guard) <;> walk_at "ev"))
local macro_rules | `(tactic| walk_at "skip") => `(tactic| ((with_reducible apply xs_skip) <;> walk_at "ev"))
local macro_rules | `(tactic| walk_at "take") => `(tactic| ((with_reducible apply xs_take) <;> walk_at "ev"))
local macro_rules | `(tactic| walk_at "clean") => `(tactic| try simp only [cxK, cxK', asnL, List.length_cons, List.length_nil, Nat.zero_add, Nat.reduceAdd])
section
variable {P : Program} {w : World} {K : Frag} {mg : Str → Option Value} {base : Heap}
/-- the table of the first n turns -/
def Pt (f r : List Int) (n : Nat) : Gd.Tb := Gd.prod ((List.range n).map (tin f r))
theorem Pt_succ (f r : List Int) (n : Nat) : Pt f r (n + 1) = (Pt f r n).step (tin f r n) := by
  unfold Pt; rw [List.range_succ, List.map_append]; exact Gd.prod_snoc _ _
theorem Pt_a2 (f r : List Int) (n : Nat) : (Pt f r (n + 2)).a = (Pt f r n).a + tin f r (n + 1) * (Pt f r (n + 1)).a := by
  rw [Pt_succ f r (n + 1)]
  show (Pt f r (n + 1)).a * tin f r (n + 1) + (Pt f r (n + 1)).b = _
  have : (Pt f r (n + 1)).b = (Pt f r n).a := by rw [Pt_succ]; rfl
  rw [this, Int.add_comm, Int.mul_comm]
theorem Pt_c2 (f r : List Int) (n : Nat) : (Pt f r (n + 2)).c = (Pt f r n).c + tin f r (n + 1) * (Pt f r (n + 1)).c := by
  rw [Pt_succ f r (n + 1)]
  show (Pt f r (n + 1)).c * tin f r (n + 1) + (Pt f r (n + 1)).d = _
  have : (Pt f r (n + 1)).d = (Pt f r n).c := by rw [Pt_succ]; rfl
  rw [this, Int.add_comm, Int.mul_comm]
abbrev dPt (f r : List Int) (n : Nat) : D := .tup [.int (Pt f r n).c, .int (Pt f r n).a]
theorem Pt_bd {f r : List Int} {b : Nat} (h : RowOk f r b) (n : Nat) : BdT (1 + n * (b + 1)) (Pt f r n) := by
  have := BdT.prod (l := b) (ts := (List.range n).map (tin f r)) fun t ht => by
    rw [List.mem_map] at ht
    obtain ⟨i, _, rfl⟩ := ht
    exact tin_bd h i
  rwa [List.length_map, List.length_range] at this
inductive rAlong : List D → D → Prop
  | mk (x0 x1 s0 s1 m : Int) (k l : Nat) (h0 : Bd k s0) (h1 : Bd k s1) (hm : Bd l m) (e : k + l < 900000) : rAlong [.tup [.int x0, .int x1], .tup [.int s0, .int s1], .int m] (.tup [.int (x0 + m * s0), .int (x1 + m * s1)])
abbrev N_along : List Str := [("point" : Str), ("step" : Str), ("many" : Str)]
theorem sc_along : FnScope N_along [("point" : Str), ("step" : Str), ("many" : Str)] (defScope s_along) := ⟨rfl, rfl, rfl, by decide +kernel, rfl, by decide +kernel, by decide +kernel⟩
theorem ok_along {f : Addr} {fd : FuncData} (F : FunD K "along" "along" (defArgs s_along) (defBody s_along) (defScope s_along) [] [] f fd) (hb : Binds K fd [("point" : Str), ("step" : Str), ("many" : Str)] []) (T : Txt K mg) : FnR P w K mg base CX0 1 f (spD K 3 rAlong) := by
  have B : FnOk P w K mg base CX0 1 f fd [("point" : Str), ("step" : Str), ("many" : Str)] (spD K 3 rAlong) := by
    refine F.ok sc_along (fun vs H Q E h => h.1) (fun cdv A outer s H vs Q E hr h => ?_)
    have hu := hr.units
    have hu1 : _ + 1 < cLine := Nat.lt_of_le_of_lt (Nat.add_le_add_left (by decide : 1 ≤ 64) _) hr.units
    have nd := sc_along.nd
    refine ⟨_, PSs.nox (pss_one (ps_ret (pe_tup (pa_cons (pe_op op_add (pe_ix (show IxR _ (rIx K) from ix_seq) (pv 0) pe_int (fun _ _ => rfl)) (pe_op op_mulW (pv 2) (pe_ix (show IxR _ (rIx K) from ix_seq) (pv 1) pe_int (fun _ _ => rfl)))) (pa_cons (pe_op op_add (pe_ix (show IxR _ (rIx K) from ix_seq) (pv 0) pe_int (fun _ _ => rfl)) (pe_op op_mulW (pv 2) (pe_ix (show IxR _ (rIx K) from ix_seq) (pv 1) pe_int (fun _ _ => rfl)))) pa_nil))))), enter h (by decide) ?_⟩
    rintro _ _ ⟨x0, x1, s0, s1, m, k, l, h0, h1, hm, e⟩ _
    left
    show ExD K _ [.fr (.tup [.int x0, .int x1]), .fr (.tup [.int s0, .int s1]), .fr (.int m)] _
    walk_at "clean"
    have i0 : ∀ a b : Int, atI [D.int a, D.int b] 0 = some (.int a) := fun a b => rfl
    have i1 : ∀ a b : Int, atI [D.int a, D.int b] 1 = some (.int b) := fun a b => rfl
    with_reducible apply x_ret
    with_reducible apply ev_tup
    · with_reducible apply ea_cons (d := .int (x0 + m * s0))
      · with_reducible apply ev_add
        · exact ev_ix (ev_var rfl) ev_int rfl (i0 _ _)
        · with_reducible apply ev_mul
          · exact ev_var rfl
          · exact ev_ix (ev_var (i := 1) rfl) ev_int rfl (i0 _ _)
          · exact hm.cm h0 (by omega)
      · with_reducible apply ea_cons (d := .int (x1 + m * s1))
        · with_reducible apply ev_add
          · exact ev_ix (ev_var rfl) ev_int rfl (i1 _ _)
          · with_reducible apply ev_mul
            · exact ev_var rfl
            · exact ev_ix (ev_var (i := 1) rfl) ev_int rfl (i1 _ _)
            · exact hm.cm h1 (by omega)
        · exact ea_nil
    · simp
  exact (B.raw hb .nil).imp fun vs H Q E h => by rw [List.append_nil]; exact h
/-- which side: 1 below, 0 above -/
inductive Sd : Str → Nat → Prop
  | below : Sd ("below" : Str) 1
  | above : Sd ("above" : Str) 0
inductive rCheck (K : Frag) : List D → D → Prop
  | mk (f r : List Int) (z : Str) (k n : Nat) (h : Sd z k) (hn : n ≤ 500) : rCheck K [dW K f r, .str z, .int n] .non
abbrev N_check_sail : List Str := [("row" : Str), ("side" : Str), ("many" : Str)]
theorem sc_check_sail : FnScope N_check_sail [("row" : Str), ("side" : Str), ("many" : Str)] (defScope s_check_sail) := ⟨rfl, rfl, rfl, by decide +kernel, rfl, by decide +kernel, by decide +kernel⟩
theorem ok_check_sail {f : Addr} {fd : FuncData} (F : FunD K "check_sail" "check_sail" (defArgs s_check_sail) (defBody s_check_sail) (defScope s_check_sail) [] [] f fd) (hb : Binds K fd [("row" : Str), ("side" : Str), ("many" : Str)] []) (T : Txt K mg) : FnR P w K mg base CX0 1 f (spD K 3 (rCheck K)) := by
  obtain ⟨tk_MOST_POINTS, hg_MOST_POINTS⟩ := T.g_MOST_POINTS
  have B : FnOk P w K mg base CX0 1 f fd [("row" : Str), ("side" : Str), ("many" : Str)] (spD K 3 (rCheck K)) := by
    refine F.ok sc_check_sail (fun vs H Q E h => h.1) (fun cdv A outer s H vs Q E hr h => ?_)
    have hu := hr.units
    have hu1 : _ + 1 < cLine := Nat.lt_of_le_of_lt (Nat.add_le_add_left (by decide : 1 ≤ 64) _) hr.units
    have nd := sc_check_sail.nd
    refine ⟨_, PSs.nox (pss_cons (ps_if (pt_cmpR op_eq (pe_fld (pv 0) rfl) pe_str (nomark _)) pss_never pss_nil)
      (pss_cons (ps_if (PW.pt (pw_and (pt_cmpR op_ne (pv 1) pe_str (nomark _)) (pw_and1 (pt_cmpR op_ne (pv 1) pe_str (nomark _))))) pss_never pss_nil)
      (pss_one (ps_if (PW.pt (pw_or (pt_cmpR op_lt (pv 2) pe_int (nomark _)) (pw_or1 (pt_cmpR op_gt (pv 2) (pe_glob (v := .int 500) rfl hg_MOST_POINTS ⟨_, rfl⟩) (nomark _))))) pss_never pss_nil)))), enter h (by decide) ?_⟩
    rintro _ _ ⟨f, r, z, k, n, h, hn⟩ _
    right
    refine ⟨rfl, [.fr (dW K f r), .fr (.str z), .fr (.int n)], ?_⟩
    show ExD K _ [.fr (dW K f r), .fr (.str z), .fr (.int n)] _
    walk_at "clean"
    have e0 : (("looped" : Str) = ("ended" : Str)) ↔ False := by decide
    with_reducible apply xs_guard
    · walk_at "ev"
    · decide
    · cases h with
      | below =>
        with_reducible apply xs_guard
        · walk_at "ev"
        · decide
        · with_reducible apply x_guard
          · walk_at "ev"
          · simp; omega
      | above =>
        with_reducible apply xs_guard
        · walk_at "ev"
        · decide
        · with_reducible apply x_guard
          · walk_at "ev"
          · simp; omega
  exact (B.raw hb .nil).imp fun vs H Q E h => by rw [List.append_nil]; exact h
inductive rFirst (K : Frag) : List D → D → Prop
  | mk (f r : List Int) (b : Nat) (z : Str) (k : Nat) (h : Sd z k) (hO : RowOk f r b) (hb : b ≤ 160000) : rFirst K [dW K f r, .str z] (.tup [dPt f r k, dPt f r (k + 1), .int ((k + 1 : Nat) : Int)])
abbrev N_first_edge : List Str := [("row" : Str), ("side" : Str), ("corner" : Str), ("step" : Str)]
theorem sc_first_edge : FnScope N_first_edge [("row" : Str), ("side" : Str)] (defScope s_first_edge) := ⟨rfl, rfl, rfl, by decide +kernel, rfl, by decide +kernel, by decide +kernel⟩
theorem ok_first_edge {f : Addr} {fd : FuncData} (F : FunD K "first_edge" "first_edge" (defArgs s_first_edge) (defBody s_first_edge) (defScope s_first_edge) [] [] f fd) (hb : Binds K fd [("row" : Str), ("side" : Str)] []) (T : Txt K mg) (h_Row_floor : Me P w K mg base (cRow K) "floor" 1 (spD K 1 (rFloor K))) (h_along : Fn P w K mg base "along" 1 (spD K 3 rAlong)) (h_Row_turn : Me P w K mg base (cRow K) "turn" 3 (spD K 2 (rRowTurn K))) : FnR P w K mg base CX0 4 f (spD K 2 (rFirst K)) := by
  have B : FnOk P w K mg base CX0 4 f fd [("row" : Str), ("side" : Str)] (spD K 2 (rFirst K)) := by
    refine F.ok sc_first_edge (fun vs H Q E h => h.1) (fun cdv A outer s H vs Q E hr h => ?_)
    have hr1 : Room 1 _ := hr.mono (by decide)
    have hr3 : Room 3 _ := hr.mono (by decide)
    have hu := hr.units
    have hu1 : _ + 1 < cLine := Nat.lt_of_le_of_lt (Nat.add_le_add_left (by decide : 1 ≤ 64) _) hr.units
    have nd := sc_first_edge.nd
    refine ⟨_, PSs.nox (pss_cons (ps_par (i := 2) (j := 3) rfl nd rfl rfl (by decide) rfl rfl (pa_cons (pe_tup (pa_cons pe_int (pa_cons pe_int pa_nil))) (pa_cons (pe_tup (pa_cons pe_int (pa_cons (pe_me0 h_Row_floor hr1 T.clRow (pv 0)) pa_nil))) pa_nil)) (by rfl))
      (pss_cons (ps_if (pt_cmpR op_eq (pv 1) pe_str (nomark _)) (pss_one (ps_ret (pe_tup (pa_cons (pv 2) (pa_cons (pv 3) (pa_cons pe_int pa_nil)))))) pss_nil)
      (pss_one (ps_ret (pe_tup (pa_cons (pv 3) (pa_cons (pe_fn h_along hr1 rfl (pa_cons (pv 2) (pa_cons (pv 3) (pa_cons (pe_me h_Row_turn hr3 T.clRow (pv 0) (pa_cons pe_int pa_nil)) pa_nil)))) (pa_cons pe_int pa_nil)))))))), enter h (by decide) ?_⟩
    rintro _ _ ⟨f, r, b, z, k, h, hO, hb⟩ _
    left
    show ExD K _ [.fr (dW K f r), .fr (.str z), .un, .un] _
    walk_at "clean"
    have p0 : dPt f r 0 = .tup [.int 0, .int 1] := rfl
    have p1 : dPt f r 1 = .tup [.int 1, .int (f.getD 0 0)] := by
      have e : Pt f r 1 = Gd.Tb.one.step (tin f r 0) := Pt_succ f r 0
      have e2 : tin f r 0 = f.getD 0 0 := by
        unfold tin; rw [if_pos (List.length_pos_iff.mpr hO.f0)]
      show D.tup [.int (Pt f r 1).c, .int (Pt f r 1).a] = _
      rw [e, e2]
      simp [Gd.Tb.one, Gd.Tb.step]
    with_reducible apply xs_par (a := dPt f r 0) (b := dPt f r 1)
    · with_reducible apply ea_is
      · walk_at "ev"
        exact .mk f r hO.f0
      · rw [p0, p1]
    · dsimp only [List.set]
      cases h with
      | above =>
        with_reducible apply xs_take
        · walk_at "ev"
        · rfl
        · with_reducible apply x_ret
          with_reducible apply ev_is (d := .tup [dPt f r 0, dPt f r 1, .int 1])
          · walk_at "ev"
          · rfl
      | below =>
        with_reducible apply xs_skip
        · walk_at "ev"
        · decide
        · with_reducible apply x_ret
          have b1 := Pt_bd hO 1
          have al : rAlong [dPt f r 0, dPt f r 1, .int (tin f r 1)] (dPt f r 2) := by
            have := rAlong.mk (Pt f r 0).c (Pt f r 0).a (Pt f r 1).c (Pt f r 1).a (tin f r 1) _ _ b1.c b1.a (tin_bd hO 1) (by omega)
            rw [← Pt_c2 f r 0, ← Pt_a2 f r 0] at this
            exact this
          with_reducible apply ev_tup
          · with_reducible apply ea_cons
            · walk_at "ev"
            · with_reducible apply ea_cons
              · with_reducible apply ev_call'
                · with_reducible apply ea_cons
                  · walk_at "ev"
                  · with_reducible apply ea_cons
                    · walk_at "ev"
                    · with_reducible apply ea_cons
                      · with_reducible apply ev_meth'
                        · walk_at "ev"
                        · walk_at "ev"
                        · rfl
                        · rfl
                        · exact .mk f r b 1 hO (by omega)
                      · exact ea_nil
                · rfl
                · exact al
              · exact ea_cons (ev_is ev_int rfl) ea_nil
          · simp
  exact (B.raw hb .nil).imp fun vs H Q E h => by rw [List.append_nil]; exact h
inductive rNext (K : Frag) : List D → D → Prop
  | mk (f r : List Int) (b n : Nat) (hO : RowOk f r b) (hn : n ≤ 4000) (hb : (n + 3) * (b + 1) + b < 800000) : rNext K [dW K f r, dPt f r n, dPt f r (n + 1), .int ((n + 1 : Nat) : Int)] (.tup [dPt f r (n + 2), dPt f r (n + 3), .int ((n + 3 : Nat) : Int)])
abbrev N_next_edge : List Str := [("row" : Str), ("corner" : Str), ("step" : Str), ("place" : Str), ("end" : Str)]
theorem sc_next_edge : FnScope N_next_edge [("row" : Str), ("corner" : Str), ("step" : Str), ("place" : Str)] (defScope s_next_edge) := ⟨rfl, rfl, rfl, by decide +kernel, rfl, by decide +kernel, by decide +kernel⟩
theorem ok_next_edge {f : Addr} {fd : FuncData} (F : FunD K "next_edge" "next_edge" (defArgs s_next_edge) (defBody s_next_edge) (defScope s_next_edge) [] [] f fd) (hb : Binds K fd [("row" : Str), ("corner" : Str), ("step" : Str), ("place" : Str)] []) (T : Txt K mg) (h_along : Fn P w K mg base "along" 1 (spD K 3 rAlong)) (h_Row_turn : Me P w K mg base (cRow K) "turn" 3 (spD K 2 (rRowTurn K))) : FnR P w K mg base CX0 4 f (spD K 4 (rNext K)) := by
  have B : FnOk P w K mg base CX0 4 f fd [("row" : Str), ("corner" : Str), ("step" : Str), ("place" : Str)] (spD K 4 (rNext K)) := by
    refine F.ok sc_next_edge (fun vs H Q E h => h.1) (fun cdv A outer s H vs Q E hr h => ?_)
    have hr1 : Room 1 _ := hr.mono (by decide)
    have hr3 : Room 3 _ := hr.mono (by decide)
    have hu := hr.units
    have hu1 : _ + 1 < cLine := Nat.lt_of_le_of_lt (Nat.add_le_add_left (by decide : 1 ≤ 64) _) hr.units
    have nd := sc_next_edge.nd
    refine ⟨_, PSs.nox (pss_cons (ps_set (i := 4) nd rfl (Or.inl rfl) (pe_fn h_along hr1 rfl (pa_cons (pv 1) (pa_cons (pv 2) (pa_cons (pe_me h_Row_turn hr3 T.clRow (pv 0) (pa_cons (pv 3) pa_nil)) pa_nil)))))
      (pss_one (ps_ret (pe_tup (pa_cons (pv 4) (pa_cons (pe_fn h_along hr1 rfl (pa_cons (pv 2) (pa_cons (pv 4) (pa_cons (pe_me h_Row_turn hr3 T.clRow (pv 0) (pa_cons (pe_op op_add (pv 3) pe_int) pa_nil)) pa_nil)))) (pa_cons (pe_op op_add (pv 3) pe_int) pa_nil))))))), enter h (by decide) ?_⟩
    rintro _ _ ⟨f, r, b, n, hO, hn, hb⟩ _
    left
    show ExD K _ [.fr (dW K f r), .fr (dPt f r n), .fr (dPt f r (n + 1)), .fr (.int ((n + 1 : Nat) : Int)), .un] _
    walk_at "clean"
    have m1 : (n + 1) * (b + 1) ≤ (n + 3) * (b + 1) := Nat.mul_le_mul_right _ (by omega)
    have m2 : (n + 2) * (b + 1) ≤ (n + 3) * (b + 1) := Nat.mul_le_mul_right _ (by omega)
    have b1 := Pt_bd hO (n + 1)
    have b2 := Pt_bd hO (n + 2)
    have al1 : rAlong [dPt f r n, dPt f r (n + 1), .int (tin f r (n + 1))] (dPt f r (n + 2)) := by
      have := rAlong.mk (Pt f r n).c (Pt f r n).a (Pt f r (n + 1)).c (Pt f r (n + 1)).a (tin f r (n + 1)) _ _ b1.c b1.a (tin_bd hO (n + 1)) (by omega)
      rw [← Pt_c2 f r n, ← Pt_a2 f r n] at this
      exact this
    have al2 : rAlong [dPt f r (n + 1), dPt f r (n + 2), .int (tin f r (n + 2))] (dPt f r (n + 3)) := by
      have := rAlong.mk (Pt f r (n + 1)).c (Pt f r (n + 1)).a (Pt f r (n + 2)).c (Pt f r (n + 2)).a (tin f r (n + 2)) _ _ b2.c b2.a (tin_bd hO (n + 2)) (by omega)
      rw [← Pt_c2 f r (n + 1), ← Pt_a2 f r (n + 1)] at this
      exact this
    with_reducible apply xs_set (d := dPt f r (n + 2))
    · with_reducible apply ev_call'
      · with_reducible apply ea_cons
        · walk_at "ev"
        · with_reducible apply ea_cons
          · walk_at "ev"
          · with_reducible apply ea_cons
            · with_reducible apply ev_meth'
              · walk_at "ev"
              · walk_at "ev"
              · rfl
              · rfl
              · exact .mk f r b (n + 1) hO (by omega)
            · exact ea_nil
      · rfl
      · exact al1
    · dsimp only [List.set]
      with_reducible apply x_ret
      with_reducible apply ev_tup
      · with_reducible apply ea_cons
        · walk_at "ev"
        · with_reducible apply ea_cons
          · with_reducible apply ev_call'
            · with_reducible apply ea_cons
              · walk_at "ev"
              · with_reducible apply ea_cons
                · walk_at "ev"
                · with_reducible apply ea_cons
                  · with_reducible apply ev_meth'
                    · walk_at "ev"
                    · with_reducible apply ea_cons (d := .int ((n + 2 : Nat) : Int))
                      · with_reducible apply ev_is
                        · walk_at "ev"
                        · congr 1
                      · exact ea_nil
                    · rfl
                    · rfl
                    · exact .mk f r b (n + 2) hO (by omega)
                  · exact ea_nil
            · rfl
            · exact al2
          · with_reducible apply ea_cons (d := .int ((n + 3 : Nat) : Int))
            · with_reducible apply ev_is
              · walk_at "ev"
              · congr 1
            · exact ea_nil
      · simp
  exact (B.raw hb .nil).imp fun vs H Q E h => by rw [List.append_nil]; exact h
def sailD (f r : List Int) (k n : Nat) : List D := (List.range n).map fun i => dPt f r (k + 2 * i)
inductive rSail (K : Frag) : List D → List D → Prop
  | mk (f r : List Int) (b : Nat) (z : Str) (k n : Nat) (h : Sd z k) (hO : RowOk f r b) (hn : n ≤ 500) (hb : (2 * n + 5) * (b + 1) + b < 800000) : rSail K [dW K f r, .str z, .int n] (sailD f r k n)
abbrev N_sail : List Str := [("row" : Str), ("side" : Str), ("many" : Str), ("corners" : Str), ("corner" : Str), ("step" : Str), ("place" : Str), ("_" : Str)]
theorem sc_sail : FnScope N_sail [("row" : Str), ("side" : Str), ("many" : Str)] (defScope s_sail) := ⟨rfl, rfl, rfl, by decide +kernel, rfl, by decide +kernel, by decide +kernel⟩
theorem ok_sail {f : Addr} {fd : FuncData} (F : FunD K "sail" "sail" (defArgs s_sail) (defBody s_sail) (defScope s_sail) [] [] f fd) (hb : Binds K fd [("row" : Str), ("side" : Str), ("many" : Str)] []) (T : Txt K mg) (h_check_sail : Fn P w K mg base "check_sail" 1 (spD K 3 (rCheck K))) (h_first_edge : Fn P w K mg base "first_edge" 4 (spD K 2 (rFirst K))) (h_next_edge : Fn P w K mg base "next_edge" 4 (spD K 4 (rNext K))) : FnR P w K mg base CX0 5 f (spL K 3 (rSail K)) := by
  have B : FnOk P w K mg base CX0 5 f fd [("row" : Str), ("side" : Str), ("many" : Str)] (spL K 3 (rSail K)) := by
    refine F.ok sc_sail (fun vs H Q E h => h.1) (fun cdv A outer s H vs Q E hr h => ?_)
    have hr1 : Room 1 _ := hr.mono (by decide)
    have hr4 : Room 4 _ := hr.mono (by decide)
    have hu := hr.units
    have hu1 : _ + 1 < cLine := Nat.lt_of_le_of_lt (Nat.add_le_add_left (by decide : 1 ≤ 64) _) hr.units
    have nd := sc_sail.nd
    refine ⟨_, PSs.nox (pss_cons (ps_expr (pe_fn h_check_sail hr1 rfl (pa_cons (pv 0) (pa_cons (pv 1) (pa_cons (pv 2) pa_nil)))))
      (pss_cons (ps_set (i := 3) nd rfl (Or.inl rfl) (pe_lst pa_nil))
      (pss_cons (ps_asg (pe_fn h_first_edge hr4 rfl (pa_cons (pv 0) (pa_cons (pv 1) pa_nil))) (pg_tup rfl (pgs_cons (pg_name (i := 4) nd rfl (Or.inl rfl)) (pgs_cons (pg_name (i := 5) nd rfl (Or.inl rfl)) (pgs_cons (pg_name (i := 6) nd rfl (Or.inl rfl)) pgs_nil)))))
      (pss_cons (ps_for PassesOwn.never rfl (pi_range1 rfl T.b_range (pa_cons (pv 2) pa_nil)) (pg_name (i := 7) nd rfl (Or.inl rfl)) (pss_cons (ps_expr (pe_bm PySem.F.plainAttrs_list PySem.F.slot_list_append PySem.F.type_list_append mt_append (pv 3) (pa_cons (pv 4) pa_nil)))
        (pss_one (ps_asg (pe_fn h_next_edge hr4 rfl (pa_cons (pv 0) (pa_cons (pv 4) (pa_cons (pv 5) (pa_cons (pv 6) pa_nil))))) (pg_tup rfl (pgs_cons (pg_name (i := 4) nd rfl (Or.inl rfl)) (pgs_cons (pg_name (i := 5) nd rfl (Or.inl rfl)) (pgs_cons (pg_name (i := 6) nd rfl (Or.inl rfl)) pgs_nil))))))))
      (pss_one (ps_ret (pv 3))))))), enterL h (by decide) ?_⟩
    rintro _ _ ⟨f, r, b, z, k, n, h, hO, hn, hb⟩ _
    show ExD K _ [.fr (dW K f r), .fr (.str z), .fr (.int n), .un, .un, .un, .un, .un] _
    walk_at "clean"
    have hk : k ≤ 1 := by cases h <;> omega
    have hb0 : b ≤ 160000 := by
      have : 5 * (b + 1) ≤ (2 * n + 5) * (b + 1) := Nat.mul_le_mul_right _ (by omega)
      omega
    refine x_seq (x_drop (d := .non) (Δ1 := [.fr (dW K f r), .fr (.str z), .fr (.int n), .un, .un, .un, .un, .un]) ?_) ?_
    · walk_at "ev"
      exact .mk f r z k n h hn
    · with_reducible apply xs_setL
      · exact el_lst ea_nil (by decide)
      · dsimp only [List.set]
        with_reducible apply xs_as3
        · walk_at "ev"
          exact .mk f r b z k h hO hb0
        · dsimp only [List.set]
          refine xs_for (fun i => [.fr (dW K f r), .fr (.str z), .fr (.int n), .ow none (sailD f r k i), .fr (dPt f r (k + 2 * i)), .fr (dPt f r (k + 2 * i + 1)), .fr (.int ((k + 2 * i + 1 : Nat) : Int)), .un]) (ei_range1 (n := (n : Int)) (ea_cons (ev_var rfl) ea_nil) (by omega) (by omega)) ?_ n (by simp) ?_
          · intro i d hd
            obtain ⟨hi, rfl⟩ := range_get hd
            simp only [Int.toNat_natCast] at hi
            refine ⟨_, as_name, ?_⟩
            with_reducible apply x_toF (i := 7)
            · dsimp only [List.set]
              refine x_seq (x_app (k := 3) (d := dPt f r (k + 2 * i)) (ds0 := sailD f r k i) (ds := sailD f r k i) (tg := none) (Δ1 := [.fr (dW K f r), .fr (.str z), .fr (.int n), .ow none (sailD f r k i), .fr (dPt f r (k + 2 * i)), .fr (dPt f r (k + 2 * i + 1)), .fr (.int ((k + 2 * i + 1 : Nat) : Int)), .fr (.int i)]) rfl (ev_var rfl) rfl (by simp [sailD]; omega)) ?_
              dsimp only [List.set]
              with_reducible apply xl_as3
              walk_at "ev"
              have m1 : (k + 2 * i + 3) * (b + 1) ≤ (2 * n + 5) * (b + 1) := Nat.mul_le_mul_right _ (by omega)
              exact .mk f r b (k + 2 * i) hO (by omega) (by omega)
            · have e : sailD f r k (i + 1) = sailD f r k i ++ [dPt f r (k + 2 * i)] := by
                unfold sailD; rw [List.range_succ, List.map_append]; rfl
              rw [e]; rfl
          · exact x_retL (i := 3) rfl
  exact (B.raw hb .nil).imp fun vs H Q E h => by rw [List.append_nil]; exact h
end
end Gw


set_option Elab.async false
set_option linter.all false
set_option maxRecDepth 100000
set_option maxHeartbeats 4000000
namespace Gw
open PySem PySem.Spec PyProof.Rows L2 DL
local macro_rules | `(tactic| walk_at "bd") => `(tactic| first
  | assumption
  | exact Bd.i0 | exact Bd.i1 | exact Bd.i2 | exact Bd.i4 | exact Bd.m2 | exact Bd.m1
  | ((with_reducible apply BdT.a) <;> assumption) | ((with_reducible apply BdT.b) <;> assumption) | ((with_reducible apply BdT.c) <;> assumption) | ((with_reducible apply BdT.d) <;> assumption)
  | ((with_reducible apply Bd.mul) <;> walk_at "bd")
  | ((with_reducible apply Bd.add) <;> walk_at "bd")
  | ((with_reducible apply Bd.sub) <;> walk_at "bd")
  | ((with_reducible apply Bd.neg) <;> walk_at "bd"))
local macro_rules | `(tactic| walk_at "ev") => `(tactic| first
  | ((with_reducible show ExD _ _ _ _); try dsimp only [List.set])
  | with_reducible exact ev_int | with_reducible exact ev_non | with_reducible exact ev_bl | with_reducible exact ev_str
  | ((with_reducible apply ev_var); exact rfl)
  | with_reducible exact ea_nil
  | ((with_reducible apply ea_cons) <;> walk_at "ev")
  | ((with_reducible apply ev_add) <;> walk_at "ev")
  | ((with_reducible apply ev_sub) <;> walk_at "ev")
  | ((with_reducible apply ev_mul) <;> walk_at "ev")
  | ((with_reducible apply ev_fdiv) <;> walk_at "ev")
  | ((with_reducible apply ev_mod) <;> walk_at "ev")
  | ((with_reducible apply ev_lt) <;> walk_at "ev")
  | ((with_reducible apply ev_le) <;> walk_at "ev")
  | ((with_reducible apply ev_gt) <;> walk_at "ev")
  | ((with_reducible apply ev_ge) <;> walk_at "ev")
  | ((with_reducible apply ev_eqS (tb := tC (V.str _)) (hb := ev_str)) <;> walk_at "ev")
  | ((with_reducible apply ev_neS (tb := tC (V.str _)) (hb := ev_str)) <;> walk_at "ev")
  | ((with_reducible apply ev_eqI) <;> walk_at "ev")
  | ((with_reducible apply ev_neI) <;> walk_at "ev")
  | ((with_reducible apply ev_neg) <;> walk_at "ev")
  | ((with_reducible apply ev_gcd) <;> walk_at "ev")
  | ((with_reducible apply ev_fld) <;> walk_at "ev")
  | ((with_reducible apply et_test) <;> walk_at "ev")
  | ((with_reducible apply et_B) <;> walk_at "ev")
  | ((with_reducible apply et_not) <;> walk_at "ev")
  | ((with_reducible apply ev_tup) <;> walk_at "ev")
  | ((with_reducible apply ev_make') <;> walk_at "ev")
  | ((with_reducible apply ev_call') <;> walk_at "ev")
  | ((with_reducible apply ev_meth') <;> walk_at "ev")
  | ((with_reducible show List.length _ = _); exact rfl)
  | ((with_reducible show List.length _ + 1 = _); exact rfl)
  | ((with_reducible show List.lookup _ _ = _); exact rfl)
  | ((with_reducible apply et_or') <;> walk_at "ev")
  | ((with_reducible apply et_and') <;> walk_at "ev")
  | ((with_reducible apply ev_own2) <;> walk_at "ev")
  | ((with_reducible apply ev_own1) <;> walk_at "ev")
  | ((with_reducible apply ev_st) <;> walk_at "ev")
  | ((with_reducible apply ev_abs) <;> walk_at "ev")
  | ((with_reducible apply ev_max2) <;> walk_at "ev")
  | ((with_reducible apply ev_divmod) <;> walk_at "ev")
  | ((with_reducible apply ev_intI) <;> walk_at "ev")
  | ((with_reducible apply ev_isN) <;> walk_at "ev")
  | ((with_reducible apply ev_notN) <;> walk_at "ev")
  | ((with_reducible apply ev_eqS) <;> walk_at "ev")
  | ((with_reducible apply ev_neS) <;> walk_at "ev")
  | ((with_reducible apply ev_lenO); exact rfl)
  | ((with_reducible apply ev_len) <;> walk_at "ev")
  | ((with_reducible show D.items _ = _); first | assumption | exact rfl)
  | ((with_reducible show rTableI _ _ _); exact ⟨rfl, rfl⟩)
  | ((with_reducible show _ = false); first | rfl | (simp; done) | (simp; omega))
  | ((with_reducible show _ = true); first | rfl | (simp; done) | (simp; omega))
  | ((with_reducible show 2 = _); exact rfl)
  | ((with_reducible show 1 = _); exact rfl)
  | exact Txt.clTable ‹_› | exact Txt.clFrac ‹_› | exact Txt.clRow ‹_› | exact Txt.clRoot ‹_›
  | exact Txt.nTable_a ‹_› | exact Txt.nTable_b ‹_› | exact Txt.nTable_c ‹_› | exact Txt.nTable_d ‹_› | exact Txt.nFrac_top ‹_› | exact Txt.nFrac_bottom ‹_›
  | exact Txt.nRow_head ‹_› | exact Txt.nRow_loop ‹_› | exact Txt.nRow_kind ‹_› | exact Txt.nRoot_a ‹_› | exact Txt.nRoot_b ‹_› | exact Txt.nRoot_c ‹_› | exact Txt.nRoot_disc ‹_›
  | ((with_reducible apply Bd.cm) <;> first | walk_at "bd" | omega)
  | ((with_reducible show _ ≤ _); simp only [List.length_cons, List.length_nil]; omega)
  | ((with_reducible intro _); walk_at "ev")
  | skip)
local macro_rules | `(tactic| walk_at "set") => `(tactic| ((with_reducible apply xs_set) <;> walk_at "ev"))
local macro_rules | `(tactic| walk_at "ret") => `(tactic| ((with_reducible apply x_ret) <;> walk_at "ev"))
local macro_rules | `(tactic| walk_at "as4") => `(tactic| ((with_reducible (first | apply xs_as4 | apply xl_as4)) <;> walk_at "ev"))
local macro_rules | `(tactic| walk_at "as3") => `(tactic| ((with_reducible (first | apply xs_as3 | apply xl_as3)) <;> walk_at "ev"))
local macro_rules | `(tactic| walk_at "as2") => `(tactic| ((with_reducible (first | apply xs_as2 | apply xl_as2)) <;> walk_at "ev"))
local macro_rules | `(tactic| walk_at "par") => `(tactic| ((with_reducible (first | apply xs_par | apply x_par)) <;> walk_at "ev"))
local macro_rules | `(tactic| walk_at "fld") => `(tactic| ((with_reducible (first | apply xs_fld | apply x_fld)) <;> first | exact rfl | decide | walk_at "ev"))
local macro_rules | `(tactic| walk_at "guard") => `(tactic| ((with_reducible apply xs_guard) <;> walk_at "ev"))
local macro_rules | `(tactic| walk_at "skip") => `(tactic| ((with_reducible apply xs_skip) <;> walk_at "ev"))
local macro_rules | `(tactic| walk_at "take") => `(tactic| ((with_reducible apply xs_take) <;> walk_at "ev"))
local macro_rules | `(tactic| walk_at "clean") => `(tactic| try simp only [cxK, cxK', asnL, List.length_cons, List.length_nil, Nat.zero_add, Nat.reduceAdd])
section
variable {P : Program} {w : World} {K : Frag} {mg : Str → Option Value} {base : Heap}
/-! ### == of data -/
theorem eqv_int (i j : Int) : PyData.eqv (.int i) (.int j) = decide (i = j) := by unfold PyData.eqv; by_cases h : i = j <;> simp [h]
theorem py_ints : ∀ xs ys : List Int, PyData.eqvAll (D.pyL (dI xs)) (D.pyL (dI ys)) = decide (xs = ys)
  | [], [] => by simp [D.pyL, PyData.eqvAll]
  | x :: xs, [] => by simp [D.pyL, PyData.eqvAll]
  | [], y :: ys => by simp [D.pyL, PyData.eqvAll]
  | x :: xs, y :: ys => by
    show PyData.eqvAll (PyData.int x :: D.pyL (dI xs)) (PyData.int y :: D.pyL (dI ys)) = _
    rw [PyData.eqvAll, eqv_int, py_ints xs ys]
    by_cases h : x = y <;> by_cases h2 : xs = ys <;> simp [h, h2]
theorem eqv_refl : (∀ d : D, d.noIns = true → PyData.eqv d.py d.py = true) ∧ ∀ ds : List D, D.noInsL ds = true → PyData.eqvAll (D.pyL ds) (D.pyL ds) = true := by
  have key : ∀ n : Nat, (∀ d : D, sizeOf d ≤ n → d.noIns = true → PyData.eqv d.py d.py = true) ∧ ∀ ds : List D, sizeOf ds ≤ n → D.noInsL ds = true → PyData.eqvAll (D.pyL ds) (D.pyL ds) = true := fun n => by
    induction n with
    | zero =>
      refine ⟨fun d h => ?_, fun ds h => ?_⟩
      · cases d <;> simp at h
      · cases ds <;> simp at h
    | succ n ih =>
      refine ⟨fun d h hn => ?_, fun ds h hn => ?_⟩
      · cases d with
        | non => simp [D.py, PyData.eqv]
        | bl b => simp [D.py, PyData.eqv]
        | int i => simp [D.py, PyData.eqv]
        | str z => simp [D.py, PyData.eqv]
        | tup xs =>
          simp only [D.py, PyData.eqv]
          exact ih.2 xs (by simp at h; omega) hn
        | lst xs =>
          simp only [D.py, PyData.eqv]
          exact ih.2 xs (by simp at h; omega) hn
        | ins C ns xs => cases hn
        | scr ns => cases hn
      · cases ds with
        | nil => simp [D.pyL, PyData.eqvAll]
        | cons d ds =>
          have hn' : (d.noIns && D.noInsL ds) = true := hn
          rw [Bool.and_eq_true] at hn'
          simp at h
          simp only [D.pyL, PyData.eqvAll]
          rw [ih.1 d (by omega) hn'.1, ih.2 ds (by omega) hn'.2]; rfl
  exact ⟨fun d => (key _).1 d (Nat.le_refl _), fun ds => (key _).2 ds (Nat.le_refl _)⟩
/-! ### the pool -/
def poolN (place : Nat) (cell : Int) : Int := if ((if cell < 0 then -cell else cell) < 10 ^ 18) then ((cell + 97 * place + 1) * 1103515245 % 2147483647) * 2147483629 + ((((cell + 97 * place + 1) * 1103515245 % 2147483647) * ((cell + 97 * place + 1) * 1103515245 % 2147483647) + cell + place) % 2147483629) else (if cell < 0 then -cell else cell)
def poolOf (cells : List Int) : List Int := (List.range (max 9 cells.length)).map fun i => poolN i (cells.getD i 0)
theorem poolOf_ne (cells : List Int) : poolOf cells ≠ [] := by
  intro h
  have := congrArg List.length h
  simp [poolOf] at this
inductive rPool : List D → List D → Prop
  | mk (ns : List Int) (hl : ns.length ≤ 63) : rPool [.scr ns] (dI (poolOf ns))
abbrev N__law_pool : List Str := [("script" : Str), ("cells" : Str), ("pool" : Str), ("place" : Str), ("cell" : Str), ("number" : Str), ("first" : Str), ("second" : Str)]
theorem sc__law_pool : FnScope N__law_pool [("script" : Str)] (defScope s__law_pool) := ⟨rfl, rfl, rfl, by decide +kernel, rfl, by decide +kernel, by decide +kernel⟩
theorem ok__law_pool {f : Addr} {fd : FuncData} (F : FunD K "_law_pool" "_law_pool" (defArgs s__law_pool) (defBody s__law_pool) (defScope s__law_pool) [] [] f fd) (hb : Binds K fd [("script" : Str)] []) (T : Txt K mg) : FnR P w K mg base CX0 1 f (spL K 1 rPool) := by
  have B : FnOk P w K mg base CX0 1 f fd [("script" : Str)] (spL K 1 rPool) := by
    refine F.ok sc__law_pool (fun vs H Q E h => h.1) (fun cdv A outer s H vs Q E hr h => ?_)
    have hu := hr.units
    have hu1 : _ + 1 < cLine := Nat.lt_of_le_of_lt (Nat.add_le_add_left (by decide : 1 ≤ 64) _) hr.units
    have nd := sc__law_pool.nd
    refine ⟨_, PSs.nox (pss_cons (ps_set (i := 1) nd rfl (Or.inl rfl) (pe_slice sl_any (pv 0) po_none (po_some pe_int)))
      (pss_cons (ps_set (i := 2) nd rfl (Or.inl rfl) (pe_lst pa_nil))
      (pss_cons (ps_for PassesOwn.never rfl (pi_range1 rfl T.b_range (pa_cons (pe_callB (call_max2 rfl) (by rfl) T.b_max (by decide +kernel) (pa_cons pe_int (pa_cons (pe_callB call_lenA (by rfl) T.b_len (by decide +kernel) (pa_cons (pv 1) pa_nil)) pa_nil))) pa_nil)) (pg_name (i := 3) nd rfl (Or.inl rfl)) (pss_cons (ps_set (i := 4) nd rfl (Or.inl rfl) pe_int)
        (pss_cons (ps_if (pt_cmpR op_lt (pv 3) (pe_callB call_lenA (by rfl) T.b_len (by decide +kernel) (pa_cons (pv 1) pa_nil)) (nomark _)) (pss_one (ps_set (i := 4) nd rfl (Or.inl rfl) (pe_ix (show IxR _ (rIx K) from ix_seq) (pv 1) (pv 3) (fun _ _ => rfl)))) pss_nil)
        (pss_cons (ps_set (i := 5) nd rfl (Or.inl rfl) (pe_callB call_abs (by rfl) T.b_abs (by decide +kernel) (pa_cons (pv 4) pa_nil)))
        (pss_cons (ps_if (pt_cmpR op_lt (pv 5) (pe_op op_pow pe_int pe_int) (nomark _)) (pss_cons (ps_set (i := 6) nd rfl (Or.inl rfl) (pe_op op_mod (pe_callTy call_int1 (by rfl) T.b_int (by decide +kernel) (pa_cons (pe_op op_mulW (pe_op op_add (pe_op op_add (pv 4) (pe_op op_mulW pe_int (pv 3))) pe_int) pe_int) pa_nil)) pe_int))
          (pss_cons (ps_set (i := 7) nd rfl (Or.inl rfl) (pe_op op_mod (pe_callTy call_int1 (by rfl) T.b_int (by decide +kernel) (pa_cons (pe_op op_add (pe_op op_add (pe_op op_mulW (pv 6) (pv 6)) (pv 4)) (pv 3)) pa_nil)) pe_int))
          (pss_one (ps_set (i := 5) nd rfl (Or.inl rfl) (pe_op op_add (pe_op op_mulW (pv 6) pe_int) (pv 7)))))) pss_nil)
        (pss_one (ps_expr (pe_bm PySem.F.plainAttrs_list PySem.F.slot_list_append PySem.F.type_list_append mt_append (pv 2) (pa_cons (pv 5) pa_nil)))))))))
      (pss_one (ps_ret (pv 2)))))), enterL h (by decide) ?_⟩
    rintro _ _ ⟨ns, hl⟩ _
    show ExD K _ [.fr (.scr ns), .un, .un, .un, .un, .un, .un, .un] _
    walk_at "clean"
    with_reducible apply xs_setL (ds := dI ns)
    · with_reducible apply el_is
      · with_reducible apply el_slS
        · walk_at "ev"
        · exact eo_none
        · with_reducible apply eo_some
          walk_at "ev"
      · exact (cutD_whole (by
          rw [List.length_map]
          refine ⟨rfl, ?_⟩
          have := HT.sIx_nat ns.length ns.length 63
          rw [show ((63 : Nat) : Int) = 63 from rfl] at this
          rw [this]; omega))
    · dsimp only [List.set]
      refine x_freeze (i := 1) rfl ?_
      dsimp only [List.set]
      with_reducible apply xs_setL
      · exact el_lst ea_nil (by decide)
      · dsimp only [List.set]
        have hmax : (if (((dI ns).length : Nat) : Int) > 9 then (((dI ns).length : Nat) : Int) else 9) = ((max 9 ns.length : Nat) : Int) := by
          rw [List.length_map]
          split <;> omega
        refine xs_for (fun i => [.fr (.scr ns), .fr (.lst (dI ns)), .ow none (dI ((List.range i).map fun i => poolN i (ns.getD i 0))), .un, .un, .un, .un, .un]) (ei_range1 (n := ((max 9 ns.length : Nat) : Int)) (ea_is (ea_cons (ev_max2 ev_int (ev_len (ev_var (i := 1) rfl) rfl)) ea_nil) (by rw [hmax])) (by omega) (by omega)) ?_ (max 9 ns.length) (by simp) ?_
        · intro i d hd
          obtain ⟨hi, rfl⟩ := range_get hd
          simp only [Int.toNat_natCast] at hi
          refine ⟨_, as_name, ?_⟩
          have hsucc : dI ((List.range (i + 1)).map fun i => poolN i (ns.getD i 0)) = dI ((List.range i).map fun i => poolN i (ns.getD i 0)) ++ [.int (poolN i (ns.getD i 0))] := by
            rw [List.range_succ, List.map_append]; exact dI_snoc _ _
          obtain ⟨c, hc⟩ : ∃ c, ns.getD i 0 = c := ⟨_, rfl⟩
          rw [hsucc, hc]
          with_reducible apply x_toF3 (i := 3) (j := 4) (l := 5)
          · with_reducible apply x_forgetR (i := 6)
            with_reducible apply x_forgetR (i := 7)
            dsimp only [List.set]
            walk_at "set"
            refine x_seq (Δ1 := [.fr (.scr ns), .fr (.lst (dI ns)), .ow none (dI ((List.range i).map fun i => poolN i (ns.getD i 0))), .fr (.int i), .fr (.int c), .un, .un, .un]) ?_ ?_
            · by_cases h : i < ns.length
              · with_reducible apply xl_if_t
                · walk_at "ev"
                · rw [List.length_map]; simp; exact h
                · with_reducible apply x_to
                  · with_reducible apply x_set (d := .int c)
                    with_reducible apply ev_ix
                    · walk_at "ev"
                    · walk_at "ev"
                    · rfl
                    · rw [← hc]; exact dI_nat h
                  · rfl
              · have e : c = 0 := by rw [← hc, List.getD_eq_getElem?_getD, List.getElem?_eq_none (by omega)]; rfl
                rw [e]
                with_reducible apply xl_if_f
                · walk_at "ev"
                · rw [List.length_map]; simp; omega
                · exact x_next
            · with_reducible apply xs_set (d := .int (if c < 0 then -c else c))
              · exact ev_abs (ev_var rfl)
              · dsimp only [List.set]
                refine x_seq (Δ1 := [.fr (.scr ns), .fr (.lst (dI ns)), .ow none (dI ((List.range i).map fun i => poolN i (ns.getD i 0))), .fr (.int i), .fr (.int c), .fr (.int (poolN i c)), .un, .un]) ?_ ?_
                · by_cases hn : (if c < 0 then -c else c) < 10 ^ 18
                  · have bc : Bd 60 c := by
                      unfold Bd
                      have : (10 : Int) ^ 18 = 1000000000000000000 := by decide
                      rw [this] at hn
                      split at hn <;> omega
                    have bi : Bd 20 (i : Int) := by unfold Bd; omega
                    have b97 : Bd 7 97 := by unfold Bd; decide
                    have bm : Bd 31 1103515245 := by unfold Bd; decide
                    have b2 : Bd 31 2147483629 := by unfold Bd; decide
                    have bf : Bd 31 ((c + 97 * i + 1) * 1103515245 % 2147483647) := by
                      have h1 := Int.emod_nonneg ((c + 97 * i + 1) * 1103515245) (show (2147483647 : Int) ≠ 0 by decide)
                      have h2 := Int.emod_lt_of_pos ((c + 97 * i + 1) * 1103515245) (show (0 : Int) < 2147483647 by decide)
                      unfold Bd; omega
                    have ep : poolN i c = ((c + 97 * i + 1) * 1103515245 % 2147483647) * 2147483629 + ((((c + 97 * i + 1) * 1103515245 % 2147483647) * ((c + 97 * i + 1) * 1103515245 % 2147483647) + c + i) % 2147483629) := by unfold poolN; rw [if_pos hn]
                    with_reducible apply xl_if_t
                    · with_reducible apply et_test
                      with_reducible apply ev_lt
                      · walk_at "ev"
                      · exact ev_pow ev_int ev_int ⟨by decide, by decide, by decide⟩
                    · exact decide_eq_true hn
                    · rw [ep]
                      with_reducible apply x_toF2 (i := 6) (j := 7)
                      · walk_at "set"
                        · decide
                        · walk_at "set"
                          · decide
                          · with_reducible apply x_set
                            walk_at "ev"
                      · rfl
                  · have ep : poolN i c = (if c < 0 then -c else c) := by unfold poolN; rw [if_neg hn]
                    rw [ep]
                    with_reducible apply xl_if_f
                    · with_reducible apply et_test
                      with_reducible apply ev_lt
                      · walk_at "ev"
                      · exact ev_pow ev_int ev_int ⟨by decide, by decide, by decide⟩
                    · exact decide_eq_false hn
                    · exact x_next
                · rw [hc] at *
                  with_reducible apply x_app
                  · rfl
                  · walk_at "ev"
                  · rfl
                  · simp; omega
          · rfl
        · exact x_retL (i := 2) rfl
  exact (B.raw hb .nil).imp fun vs H Q E h => by rw [List.append_nil]; exact h
inductive rWhole : List D → D → Prop
  | mk (i : Int) : rWhole [.int i] (.bl true)
abbrev N__law_whole : List Str := [("told" : Str)]
theorem sc__law_whole : FnScope N__law_whole [("told" : Str)] (defScope s__law_whole) := ⟨rfl, rfl, rfl, by decide +kernel, rfl, by decide +kernel, by decide +kernel⟩
theorem ok__law_whole {f : Addr} {fd : FuncData} (F : FunD K "_law_whole" "_law_whole" (defArgs s__law_whole) (defBody s__law_whole) (defScope s__law_whole) [] [] f fd) (hb : Binds K fd [("told" : Str)] []) (T : Txt K mg) : FnR P w K mg base CX0 1 f (spD K 1 rWhole) := by
  have B : FnOk P w K mg base CX0 1 f fd [("told" : Str)] (spD K 1 rWhole) := by
    refine F.ok sc__law_whole (fun vs H Q E h => h.1) (fun cdv A outer s H vs Q E hr h => ?_)
    have hu := hr.units
    have hu1 : _ + 1 < cLine := Nat.lt_of_le_of_lt (Nat.add_le_add_left (by decide : 1 ≤ 64) _) hr.units
    have nd := sc__law_whole.nd
    refine ⟨_, PSs.nox (pss_one (ps_ret (pe_and (pe_callB call_isi (by rfl) T.b_isinstance (by decide +kernel) (pa_cons (pv 0) (pa_cons (pe_bltn (v := .ty "int") (by rfl) T.b_int (by decide +kernel) rfl) pa_nil))) (pe_one (pe_not (pe_callB call_isi (by rfl) T.b_isinstance (by decide +kernel) (pa_cons (pv 0) (pa_cons (pe_bltn (v := .ty "bool") (by rfl) T.b_bool (by decide +kernel) rfl) pa_nil)))))))), enter h (by decide) ?_⟩
    rintro _ _ ⟨i⟩ _
    left
    show ExD K _ [.fr (.int i)] _
    walk_at "clean"
    with_reducible apply x_ret
    exact ev_is (ev_andV (a := true) (b := true) (ev_isi (ev_var rfl) trivial (.ty "int") (by rfl)) fun _ => ev_is (ev_notV (a := false) (ev_isi (ev_var rfl) trivial (.ty "bool") (by rfl))) rfl) rfl
  exact (B.raw hb .nil).imp fun vs H Q E h => by rw [List.append_nil]; exact h
def drawP (p : List Int) : List Int := if p.getD 0 0 = 0 ∧ 1 < p.length then p.tail else p
def draw (p : List Int) (m : Int) : Int × List Int := ((drawP p).getD 0 0 % m, (drawP p).getD 0 0 / m :: (drawP p).tail)
theorem drawP_ne {p : List Int} (h : p ≠ []) : drawP p ≠ [] := by
  unfold drawP
  split
  · rename_i hh
    intro e
    have := congrArg List.length e
    rw [List.length_tail] at this
    simp at this; omega
  · exact h
theorem drawP_len {p : List Int} : (drawP p).length ≤ p.length := by
  unfold drawP
  split
  · simp
  · exact Nat.le_refl _
theorem draw_ne (p : List Int) (m : Int) : (draw p m).2 ≠ [] := by unfold draw; simp
theorem draw_len {p : List Int} (m : Int) (h : p ≠ []) : (draw p m).2.length ≤ p.length := by
  have h1 := drawP_ne h
  have h2 := drawP_len (p := p)
  have h3 : 0 < (drawP p).length := List.length_pos_iff.mpr h1
  unfold draw
  simp; omega
theorem draw_lt (p : List Int) {m : Int} (h : 0 < m) : 0 ≤ (draw p m).1 ∧ (draw p m).1 < m := ⟨Int.emod_nonneg _ (by omega), Int.emod_lt_of_pos _ h⟩
inductive rDraw : List D → List D → D → List D → Prop
  | mk (p : List Int) (m : Int) (h : p ≠ []) (hm : 0 < m) (hb : Bd 8000 m) (hz : p.length ≤ 1000) : rDraw (dI p) [.int m] (.int (draw p m).1) (dI (draw p m).2)
abbrev N__law_draw : List Str := [("pool" : Str), ("many" : Str), ("number" : Str)]
theorem sc__law_draw : FnScope N__law_draw [("pool" : Str), ("many" : Str)] (defScope s__law_draw) := ⟨rfl, rfl, rfl, by decide +kernel, rfl, by decide +kernel, by decide +kernel⟩
theorem ok__law_draw {f : Addr} {fd : FuncData} (F : FunD K "_law_draw" "_law_draw" (defArgs s__law_draw) (defBody s__law_draw) (defScope s__law_draw) [] [] f fd) (hb : Binds K fd [("pool" : Str), ("many" : Str)] []) (T : Txt K mg) : FnR P w K mg base CX0 1 f (spM K 1 rDraw) := by
  have B : FnOk P w K mg base CX0 1 f fd [("pool" : Str), ("many" : Str)] (spM K 1 rDraw) := by
    refine F.ok sc__law_draw (fun vs H Q E h => h.1) (fun cdv A outer s H vs Q E hr h => ?_)
    have hu := hr.units
    have hu1 : _ + 1 < cLine := Nat.lt_of_le_of_lt (Nat.add_le_add_left (by decide : 1 ≤ 64) _) hr.units
    have nd := sc__law_draw.nd
    refine ⟨_, PSs.nox (pss_cons (ps_if (PW.pt (pw_and (pt_cmpR op_eq (pe_ix (show IxR _ (rIx K) from ix_seq) (pv 0) pe_int (fun _ _ => rfl)) pe_int (nomark _)) (pw_and1 (pt_cmpR op_gt (pe_callB call_lenA (by rfl) T.b_len (by decide +kernel) (pa_cons (pv 0) pa_nil)) pe_int (nomark _))))) (pss_one (ps_expr (pe_bm PySem.F.plainAttrs_list PySem.F.slot_list_pop PySem.F.type_list_pop mt_popAt (pv 0) (pa_cons pe_int pa_nil)))) pss_nil)
      (pss_cons (ps_set (i := 2) nd rfl (Or.inl rfl) (pe_ix (show IxR _ (rIx K) from ix_seq) (pv 0) pe_int (fun _ _ => rfl)))
      (pss_cons (ps_asg (pe_op op_fdivW (pv 2) (pv 1)) (pg_sub (pv 0) pe_int set_list))
      (pss_one (ps_ret (pe_op op_mod (pe_callTy call_int1 (by rfl) T.b_int (by decide +kernel) (pa_cons (pv 2) pa_nil)) (pv 1))))))), enterM h (by decide) ?_⟩
    rintro _ _ _ _ ⟨p, m, h, hm, hb, hz⟩ _ tg
    show ExD K _ [.ow (some tg) (dI p), .fr (.int m), .un] _
    walk_at "clean"
    have hp : 0 < p.length := List.length_pos_iff.mpr h
    have hq := drawP_ne h
    have hql := drawP_len (p := p)
    have hqp : 0 < (drawP p).length := List.length_pos_iff.mpr hq
    have get0 : ∀ q : List Int, 0 < q.length → atI (dI q) 0 = some (.int (q.getD 0 0)) := fun q h => dI_nat (i := 0) h
    refine x_seq (Δ1 := [.ow (some tg) (dI (drawP p)), .fr (.int m), .un]) ?_ ?_
    · with_reducible apply x_if (b := decide (p.getD 0 0 = 0) && decide ((1 : Int) < p.length))
      · with_reducible apply et_and'
        · with_reducible apply et_test
          with_reducible apply ev_eqI
          · exact ev_ixO (k := 0) ⟨_, rfl, rfl⟩ ev_int rfl (get0 p hp)
          · walk_at "ev"
        · intro _
          with_reducible apply et_is
          · walk_at "ev"
          · rw [List.length_map]
      · intro hc
        rw [Bool.and_eq_true] at hc
        have h1 := of_decide_eq_true hc.1
        have h2 := of_decide_eq_true hc.2
        have e : drawP p = p.tail := by unfold drawP; rw [if_pos ⟨h1, by omega⟩]
        rw [e]
        match p, hp with
        | x :: r, _ => exact x_to (x_drop (ev_pop0 (k := 0) (d := .int x) (ds := dI r) rfl)) rfl
      · intro hc
        have e : drawP p = p := by
          unfold drawP
          rw [if_neg]
          rintro ⟨h1, h2⟩
          rw [decide_eq_true h1, decide_eq_true (by omega)] at hc
          cases hc
        rw [e]
        exact x_next
    · with_reducible apply xs_set (d := .int ((drawP p).getD 0 0))
      · exact ev_ixO (k := 0) ⟨_, rfl, rfl⟩ ev_int rfl (get0 _ hqp)
      · dsimp only [List.set]
        refine x_seq (x_to (Δ2 := [.ow (some tg) (dI (draw p m).2), .fr (.int m), .fr (.int ((drawP p).getD 0 0))]) (x_setitem (k := 0) (i := 0) (z := 0) (ds := dI (drawP p)) (d := .int ((drawP p).getD 0 0 / m)) (Δ1 := [.ow (some tg) (dI (drawP p)), .fr (.int m), .fr (.int ((drawP p).getD 0 0))]) (Δ2 := [.ow (some tg) (dI (drawP p)), .fr (.int m), .fr (.int ((drawP p).getD 0 0))]) ?_ ev_int ⟨_, rfl, rfl⟩ rfl ?_) ?_) ?_
        · walk_at "ev"
          exact Bd.cd hb hm (by omega)
        · unfold ixN
          rw [if_pos (by omega), if_pos (by rw [List.length_map]; omega)]; rfl
        · unfold draw
          cases q : drawP p with
          | nil => exact absurd q hq
          | cons x r => rfl
        · with_reducible apply x_ret0
          · with_reducible apply ev_is (d := .int ((drawP p).getD 0 0 % m))
            · with_reducible apply ev_mod
              · with_reducible apply ev_intI
                walk_at "ev"
              · walk_at "ev"
              · exact hm
            · rfl
          · rfl
  exact (B.raw hb .nil).imp fun vs H Q E h => by rw [List.append_nil]; exact h
def menu : List Int := [1, 1, 2, 1, 3, 2, 1, 4, 5, 6, 7, 8, 9]
def turn1 (p : List Int) : Int × List Int := (menu.getD (draw p 13).1.toNat 0, (draw p 13).2)
theorem turn1_rng (p : List Int) : 1 ≤ (turn1 p).1 ∧ (turn1 p).1 ≤ 9 := by
  have h := draw_lt p (show (0 : Int) < 13 by decide)
  have : ∀ n : Fin 13, 1 ≤ menu.getD n.val 0 ∧ menu.getD n.val 0 ≤ 9 := by decide
  exact this ⟨(draw p 13).1.toNat, by omega⟩
inductive rLTurn : List D → List D → D → List D → Prop
  | mk (p : List Int) (h : p ≠ []) (hz : p.length ≤ 1000) : rLTurn (dI p) [] (.int (turn1 p).1) (dI (turn1 p).2)
theorem bd13 : Bd 8000 13 := (show Bd 4 13 by unfold Bd; decide).le (by decide)
abbrev N__law_turn : List Str := [("pool" : Str), ("menu" : Str)]
theorem sc__law_turn : FnScope N__law_turn [("pool" : Str)] (defScope s__law_turn) := ⟨rfl, rfl, rfl, by decide +kernel, rfl, by decide +kernel, by decide +kernel⟩
theorem ok__law_turn {f : Addr} {fd : FuncData} (F : FunD K "_law_turn" "_law_turn" (defArgs s__law_turn) (defBody s__law_turn) (defScope s__law_turn) [] [] f fd) (hb : Binds K fd [("pool" : Str)] []) (T : Txt K mg) (h__law_draw : Fn P w K mg base "_law_draw" 1 (spM K 1 rDraw)) : FnR P w K mg base CX0 2 f (spM K 0 rLTurn) := by
  have B : FnOk P w K mg base CX0 2 f fd [("pool" : Str)] (spM K 0 rLTurn) := by
    refine F.ok sc__law_turn (fun vs H Q E h => h.1) (fun cdv A outer s H vs Q E hr h => ?_)
    have hr1 : Room 1 _ := hr.mono (by decide)
    have hu := hr.units
    have hu1 : _ + 1 < cLine := Nat.lt_of_le_of_lt (Nat.add_le_add_left (by decide : 1 ≤ 64) _) hr.units
    have nd := sc__law_turn.nd
    refine ⟨_, PSs.nox (pss_cons (ps_set (i := 1) nd rfl (Or.inl rfl) (pe_lst (pa_cons pe_int (pa_cons pe_int (pa_cons pe_int (pa_cons pe_int (pa_cons pe_int (pa_cons pe_int (pa_cons pe_int (pa_cons pe_int (pa_cons pe_int (pa_cons pe_int (pa_cons pe_int (pa_cons pe_int (pa_cons pe_int pa_nil)))))))))))))))
      (pss_one (ps_ret (pe_ix (show IxR _ (rIx K) from ix_seq) (pv 1) (pe_fn h__law_draw hr1 rfl (pa_cons (pv 0) (pa_cons pe_int pa_nil))) (fun _ _ => rfl))))), enterM h (by decide) ?_⟩
    rintro _ _ _ _ ⟨p, h, hz⟩ _ tg
    show ExD K _ [.ow (some tg) (dI p), .un] _
    walk_at "clean"
    have hr := draw_lt p (show (0 : Int) < 13 by decide)
    with_reducible apply xs_setL (ds := dI menu)
    · with_reducible apply el_lst
      · exact ea_cons ev_int (ea_cons ev_int (ea_cons ev_int (ea_cons ev_int (ea_cons ev_int (ea_cons ev_int (ea_cons ev_int (ea_cons ev_int (ea_cons ev_int (ea_cons ev_int (ea_cons ev_int (ea_cons ev_int (ea_cons ev_int ea_nil))))))))))))
      · decide
    · dsimp only [List.set]
      refine x_freeze (i := 1) rfl ?_
      dsimp only [List.set]
      refine x_ret0 (s := .ow (some tg) (dI (turn1 p).2)) (Δ1 := [.ow (some tg) (dI (turn1 p).2), .fr (.lst (dI menu))]) ?_ rfl
      refine ev_ix (ds := dI menu) (i := (draw p 13).1) (ev_var (d := .lst (dI menu)) (i := 1) rfl) (ev_callM (k := 0) (xs := dI p) (ds := [.int 13]) (tg := some tg) ⟨_, rfl, rfl⟩ (ea_cons ev_int ea_nil) rfl rfl (.mk p 13 h (by decide) bd13 hz)) rfl ?_
      have e : (draw p 13).1 = (((draw p 13).1.toNat : Nat) : Int) := by omega
      rw [e]
      exact dI_nat (by show (draw p 13).1.toNat < 13; omega)
  exact (B.raw hb .nil).imp fun vs H Q E h => by rw [List.append_nil]; exact h
def turnsN : Nat → List Int → List Int × List Int
  | 0, p => ([], p)
  | n + 1, p => ((turnsN n p).1 ++ [(turn1 (turnsN n p).2).1], (turn1 (turnsN n p).2).2)
theorem turnsN_len (p : List Int) : ∀ n, (turnsN n p).1.length = n
  | 0 => rfl
  | n + 1 => by rw [turnsN, List.length_append, turnsN_len p n]; rfl
theorem turn1_pool {p : List Int} (h : p ≠ []) : (turn1 p).2 ≠ [] ∧ (turn1 p).2.length ≤ p.length := ⟨draw_ne _ _, draw_len _ h⟩
theorem turnsN_pool {p : List Int} (h : p ≠ []) : ∀ n, (turnsN n p).2 ≠ [] ∧ (turnsN n p).2.length ≤ p.length
  | 0 => ⟨h, Nat.le_refl _⟩
  | n + 1 => by
    have ih := turnsN_pool h n
    have h1 := turn1_pool ih.1
    exact ⟨h1.1, Nat.le_trans h1.2 ih.2⟩
theorem turnsN_rng (p : List Int) : ∀ n, ∀ t ∈ (turnsN n p).1, 1 ≤ t ∧ t ≤ 9
  | 0, t, h => by cases h
  | n + 1, t, h => by
    rcases List.mem_append.mp h with h | h
    · exact turnsN_rng p n t h
    · rw [List.mem_singleton] at h; subst h; exact turn1_rng _
def tenP : Int := 10 ^ (10 : Int).toNat
theorem tenP_pos : 0 < tenP ∧ tenP < 2 ^ 64 := by decide
def grN : Nat → List Int → Int × List Int
  | 0, p => draw p tenP
  | n + 1, p => ((grN n p).1 * tenP + (draw (grN n p).2 tenP).1, (draw (grN n p).2 tenP).2)
def great (p : List Int) : Int × List Int := grN 2 p
theorem draw_bd (p : List Int) : Bd 34 (draw p tenP).1 := by
  have := draw_lt p tenP_pos.1
  have e : tenP = 10000000000 := by decide
  unfold Bd; omega
theorem grN_bd (p : List Int) : ∀ n, Bd (34 + 35 * n) (grN n p).1
  | 0 => draw_bd p
  | n + 1 => by
    have ih := grN_bd p n
    have e : Bd 34 tenP := by unfold Bd; decide
    exact ((ih.mul e).addm ((draw_bd (grN n p).2).le (by omega))).le (by omega)
theorem grN_nn (p : List Int) : ∀ n, 0 ≤ (grN n p).1
  | 0 => (draw_lt p tenP_pos.1).1
  | n + 1 => by
    have ih := grN_nn p n
    have h1 := (draw_lt (grN n p).2 tenP_pos.1).1
    have h2 := Int.mul_nonneg ih (Int.le_of_lt tenP_pos.1)
    show 0 ≤ (grN n p).1 * tenP + (draw (grN n p).2 tenP).1
    omega
theorem grN_pool {p : List Int} (h : p ≠ []) : ∀ n, (grN n p).2 ≠ [] ∧ (grN n p).2.length ≤ p.length
  | 0 => ⟨draw_ne _ _, draw_len _ h⟩
  | n + 1 => by
    have ih := grN_pool h n
    exact ⟨draw_ne _ _, Nat.le_trans (draw_len _ ih.1) ih.2⟩
def lH0 (p : List Int) := draw p 10
def lHn (p : List Int) := draw (lH0 p).2 5
def lHs (p : List Int) := turnsN (lHn p).1.toNat (lHn p).2
def lL0 (p : List Int) := turn1 (lHs p).2
def lLn (p : List Int) := draw (lL0 p).2 4
def lLs (p : List Int) := turnsN (lLn p).1.toNat (lLn p).2
def lG (p : List Int) := draw (lLs p).2 8
def lHead (p : List Int) : List Int := ((lH0 p).1 - 3) :: (lHs p).1
def lLoop (p : List Int) : List Int := if (lG p).1 = 7 then ((lL0 p).1 + (great (lG p).2).1) :: (lLs p).1 else (lL0 p).1 :: (lLs p).1
def lPool (p : List Int) : List Int := if (lG p).1 = 7 then (great (lG p).2).2 else (lG p).2
inductive rLooped : List D → List D → D → List D → Prop
  | mk (p : List Int) (h : p ≠ []) (hz : p.length ≤ 1000) : rLooped (dI p) [] (.tup [.lst (dI (lHead p)), .lst (dI (lLoop p))]) (dI (lPool p))
theorem bdc {m : Int} (h : 0 ≤ m ∧ m < 2 ^ 64) : Bd 8000 m := by
  have h1 : Bd 64 m := by unfold Bd; omega
  exact h1.le (by decide)
abbrev N__law_looped : List Str := [("pool" : Str), ("head" : Str), ("k" : Str), ("loop" : Str), ("great" : Str)]
theorem sc__law_looped : FnScope N__law_looped [("pool" : Str)] (defScope s__law_looped) := ⟨rfl, rfl, rfl, by decide +kernel, rfl, by decide +kernel, by decide +kernel⟩
theorem ok__law_looped {f : Addr} {fd : FuncData} (F : FunD K "_law_looped" "_law_looped" (defArgs s__law_looped) (defBody s__law_looped) (defScope s__law_looped) [] [] f fd) (hb : Binds K fd [("pool" : Str)] []) (T : Txt K mg) (h__law_draw : Fn P w K mg base "_law_draw" 1 (spM K 1 rDraw)) (h__law_turn : Fn P w K mg base "_law_turn" 2 (spM K 0 rLTurn)) : FnR P w K mg base CX0 3 f (spM K 0 rLooped) := by
  have B : FnOk P w K mg base CX0 3 f fd [("pool" : Str)] (spM K 0 rLooped) := by
    refine F.ok sc__law_looped (fun vs H Q E h => h.1) (fun cdv A outer s H vs Q E hr h => ?_)
    have hr1 : Room 1 _ := hr.mono (by decide)
    have hr2 : Room 2 _ := hr.mono (by decide)
    have hu := hr.units
    have hu1 : _ + 1 < cLine := Nat.lt_of_le_of_lt (Nat.add_le_add_left (by decide : 1 ≤ 64) _) hr.units
    have nd := sc__law_looped.nd
    refine ⟨_, PSs.nox (pss_cons (ps_set (i := 1) nd rfl (Or.inl rfl) (pe_lst (pa_cons (pe_op op_sub (pe_fn h__law_draw hr1 rfl (pa_cons (pv 0) (pa_cons pe_int pa_nil))) pe_int) pa_nil)))
      (pss_cons (ps_for PassesOwn.never rfl (pi_range1 rfl T.b_range (pa_cons (pe_fn h__law_draw hr1 rfl (pa_cons (pv 0) (pa_cons pe_int pa_nil))) pa_nil)) (pg_name (i := 2) nd rfl (Or.inl rfl)) (pss_one (ps_expr (pe_bm PySem.F.plainAttrs_list PySem.F.slot_list_append PySem.F.type_list_append mt_append (pv 1) (pa_cons (pe_fn h__law_turn hr2 rfl (pa_cons (pv 0) pa_nil)) pa_nil)))))
      (pss_cons (ps_set (i := 3) nd rfl (Or.inl rfl) (pe_lst (pa_cons (pe_fn h__law_turn hr2 rfl (pa_cons (pv 0) pa_nil)) pa_nil)))
      (pss_cons (ps_for PassesOwn.never rfl (pi_range1 rfl T.b_range (pa_cons (pe_fn h__law_draw hr1 rfl (pa_cons (pv 0) (pa_cons pe_int pa_nil))) pa_nil)) (pg_name (i := 2) nd rfl (Or.inl rfl)) (pss_one (ps_expr (pe_bm PySem.F.plainAttrs_list PySem.F.slot_list_append PySem.F.type_list_append mt_append (pv 3) (pa_cons (pe_fn h__law_turn hr2 rfl (pa_cons (pv 0) pa_nil)) pa_nil)))))
      (pss_cons (ps_if (pt_cmpR op_eq (pe_fn h__law_draw hr1 rfl (pa_cons (pv 0) (pa_cons pe_int pa_nil))) pe_int (nomark _)) (pss_cons (ps_set (i := 4) nd rfl (Or.inl rfl) (pe_fn h__law_draw hr1 rfl (pa_cons (pv 0) (pa_cons (pe_op op_pow pe_int pe_int) pa_nil))))
        (pss_cons (ps_for PassesOwn.never rfl (pi_range1 rfl T.b_range (pa_cons pe_int pa_nil)) (pg_name (i := 2) nd rfl (Or.inl rfl)) (pss_one (ps_set (i := 4) nd rfl (Or.inl rfl) (pe_op op_add (pe_op op_mulW (pv 4) (pe_op op_pow pe_int pe_int)) (pe_fn h__law_draw hr1 rfl (pa_cons (pv 0) (pa_cons (pe_op op_pow pe_int pe_int) pa_nil)))))))
        (pss_one (ps_asg (pe_op op_add (pe_ix (show IxR _ (rIx K) from ix_seq) (pv 3) pe_int (fun _ _ => rfl)) (pv 4)) (pg_sub (pv 3) pe_int set_list))))) pss_nil)
      (pss_one (ps_ret (pe_tup (pa_cons (pv 1) (pa_cons (pv 3) pa_nil)))))))))), enterM h (by decide) ?_⟩
    rintro _ _ _ _ ⟨p, h, hz⟩ _ tg
    show ExD K _ [.ow (some tg) (dI p), .un, .un, .un, .un] _
    walk_at "clean"
    have a1 : (lH0 p).2 ≠ [] ∧ (lH0 p).2.length ≤ 1000 := ⟨draw_ne _ _, Nat.le_trans (draw_len _ h) hz⟩
    have a2 : (lHn p).2 ≠ [] ∧ (lHn p).2.length ≤ 1000 := ⟨draw_ne _ _, Nat.le_trans (draw_len _ a1.1) a1.2⟩
    have a3 : (lHs p).2 ≠ [] ∧ (lHs p).2.length ≤ 1000 := ⟨(turnsN_pool a2.1 _).1, Nat.le_trans (turnsN_pool a2.1 _).2 a2.2⟩
    have a4 : (lL0 p).2 ≠ [] ∧ (lL0 p).2.length ≤ 1000 := ⟨(turn1_pool a3.1).1, Nat.le_trans (turn1_pool a3.1).2 a3.2⟩
    have a5 : (lLn p).2 ≠ [] ∧ (lLn p).2.length ≤ 1000 := ⟨draw_ne _ _, Nat.le_trans (draw_len _ a4.1) a4.2⟩
    have a6 : (lLs p).2 ≠ [] ∧ (lLs p).2.length ≤ 1000 := ⟨(turnsN_pool a5.1 _).1, Nat.le_trans (turnsN_pool a5.1 _).2 a5.2⟩
    have a7 : (lG p).2 ≠ [] ∧ (lG p).2.length ≤ 1000 := ⟨draw_ne _ _, Nat.le_trans (draw_len _ a6.1) a6.2⟩
    have r5 : 0 ≤ (lHn p).1 ∧ (lHn p).1 < 5 := draw_lt (lH0 p).2 (show (0 : Int) < 5 by decide)
    have r4 : 0 ≤ (lLn p).1 ∧ (lLn p).1 < 4 := draw_lt (lL0 p).2 (show (0 : Int) < 4 by decide)
    have bp : 0 < (10 : Int) ^ (10 : Int).toNat ∧ (10 : Int) ^ (10 : Int).toNat < 2 ^ 64 := by decide
    refine x_seq (x_setL (i := 1) (ds := [.int ((lH0 p).1 - 3)]) (Δ1 := [.ow (some tg) (dI (lH0 p).2), .un, .un, .un, .un]) ?_) ?_
    · exact el_lst (ea_cons (ev_sub (ev_callM (k := 0) (xs := dI p) (ds := [.int 10]) (tg := some tg) ⟨_, rfl, rfl⟩ (ea_cons ev_int ea_nil) rfl rfl (.mk p 10 h (by decide) (bdc (by decide)) hz)) ev_int) ea_nil) (by simp)
    · dsimp only [List.set]
      refine xs_for (fun i => [.ow (some tg) (dI (turnsN i (lHn p).2).2), .ow none (dI (((lH0 p).1 - 3) :: (turnsN i (lHn p).2).1)), .un, .un, .un]) (ei_range1 (n := (lHn p).1) (Δ1 := [.ow (some tg) (dI (lHn p).2), .ow none (dI [(lH0 p).1 - 3]), .un, .un, .un]) ?_ (by omega) (by omega)) ?_ (lHn p).1.toNat (by simp) ?_
      · exact ea_cons (ev_callM (k := 0) (xs := dI (lH0 p).2) (ds := [.int 5]) (tg := some tg) ⟨_, rfl, rfl⟩ (ea_cons ev_int ea_nil) rfl rfl (.mk (lH0 p).2 5 a1.1 (by decide) (bdc (by decide)) a1.2)) ea_nil
      · intro i d hd
        obtain ⟨hi, rfl⟩ := range_get hd
        have ih := turnsN_pool a2.1 i
        refine ⟨_, as_name, ?_⟩
        with_reducible apply x_toF (i := 2)
        · dsimp only [List.set]
          refine x_app (k := 1) (d := .int (turn1 (turnsN i (lHn p).2).2).1) (ds0 := dI (((lH0 p).1 - 3) :: (turnsN i (lHn p).2).1)) (ds := dI (((lH0 p).1 - 3) :: (turnsN i (lHn p).2).1)) (tg := none) (Δ1 := [.ow (some tg) (dI (turn1 (turnsN i (lHn p).2).2).2), .ow none (dI (((lH0 p).1 - 3) :: (turnsN i (lHn p).2).1)), .fr (.int i), .un, .un]) rfl ?_ rfl (by simp [turnsN_len]; omega)
          exact ev_callM (k := 0) (xs := dI (turnsN i (lHn p).2).2) (ds := []) (tg := some tg) ⟨_, rfl, rfl⟩ ea_nil rfl rfl (.mk _ ih.1 (by omega))
        · rw [← dI_snoc]; rfl
      · refine x_seq (x_setL (i := 3) (ds := [.int (lL0 p).1]) (Δ1 := [.ow (some tg) (dI (lL0 p).2), .ow none (dI (lHead p)), .un, .un, .un]) ?_) ?_
        · exact el_lst (ea_cons (ev_callM (k := 0) (xs := dI (lHs p).2) (ds := []) (tg := some tg) ⟨_, rfl, rfl⟩ ea_nil rfl rfl (.mk _ a3.1 a3.2)) ea_nil) (by simp)
        · dsimp only [List.set]
          refine xs_for (fun i => [.ow (some tg) (dI (turnsN i (lLn p).2).2), .ow none (dI (lHead p)), .un, .ow none (dI ((lL0 p).1 :: (turnsN i (lLn p).2).1)), .un]) (ei_range1 (n := (lLn p).1) (Δ1 := [.ow (some tg) (dI (lLn p).2), .ow none (dI (lHead p)), .un, .ow none (dI [(lL0 p).1]), .un]) ?_ (by omega) (by omega)) ?_ (lLn p).1.toNat (by simp) ?_
          · exact ea_cons (ev_callM (k := 0) (xs := dI (lL0 p).2) (ds := [.int 4]) (tg := some tg) ⟨_, rfl, rfl⟩ (ea_cons ev_int ea_nil) rfl rfl (.mk (lL0 p).2 4 a4.1 (by decide) (bdc (by decide)) a4.2)) ea_nil
          · intro i d hd
            obtain ⟨hi, rfl⟩ := range_get hd
            have ih := turnsN_pool a5.1 i
            refine ⟨_, as_name, ?_⟩
            with_reducible apply x_toF (i := 2)
            · dsimp only [List.set]
              refine x_app (k := 3) (d := .int (turn1 (turnsN i (lLn p).2).2).1) (ds0 := dI ((lL0 p).1 :: (turnsN i (lLn p).2).1)) (ds := dI ((lL0 p).1 :: (turnsN i (lLn p).2).1)) (tg := none) (Δ1 := [.ow (some tg) (dI (turn1 (turnsN i (lLn p).2).2).2), .ow none (dI (lHead p)), .fr (.int i), .ow none (dI ((lL0 p).1 :: (turnsN i (lLn p).2).1)), .un]) rfl ?_ rfl (by simp [turnsN_len]; omega)
              exact ev_callM (k := 0) (xs := dI (turnsN i (lLn p).2).2) (ds := []) (tg := some tg) ⟨_, rfl, rfl⟩ ea_nil rfl rfl (.mk _ ih.1 (by omega))
            · rw [← dI_snoc]; rfl
          · refine x_seq (Δ1 := [.ow (some tg) (dI (lPool p)), .ow none (dI (lHead p)), .un, .ow none (dI (lLoop p)), .un]) ?_ ?_
            · have ht : EvT K (tTest (tOp rEq (tCall (spM K 1 rDraw) [] E0 (tCons (tVar 0) (tCons (tC (.int 8)) tNil))) (tC (.int 7)))) [.ow (some tg) (dI (lLs p).2), .ow none (dI (lHead p)), .un, .ow none (dI ((lL0 p).1 :: (lLs p).1)), .un] (decide ((lG p).1 = 7)) [.ow (some tg) (dI (lG p).2), .ow none (dI (lHead p)), .un, .ow none (dI ((lL0 p).1 :: (lLs p).1)), .un] :=
                et_test (ev_eqI (ev_callM (k := 0) (xs := dI (lLs p).2) (ds := [.int 8]) (tg := some tg) ⟨_, rfl, rfl⟩ (ea_cons ev_int ea_nil) rfl rfl (.mk (lLs p).2 8 a6.1 (by decide) (bdc (by decide)) a6.2)) ev_int)
              by_cases h7 : (lG p).1 = 7
              · have e1 : lPool p = (great (lG p).2).2 := by unfold lPool; rw [if_pos h7]
                have e2 : lLoop p = ((lL0 p).1 + (great (lG p).2).1) :: (lLs p).1 := by unfold lLoop; rw [if_pos h7]
                rw [e1, e2]
                refine xl_if_t ht (decide_eq_true h7) ?_
                have evten : ∀ Δ : DE, EvD K (tOp (rI CPow fun i j => .int (i ^ j.toNat)) (tC (.int 10)) (tC (.int 10))) Δ (.int tenP) Δ := fun Δ => ev_pow ev_int ev_int ⟨by decide, by decide, by decide⟩
                refine x_seq (x_set (i := 4) (d := .int (grN 0 (lG p).2).1) (Δ1 := [.ow (some tg) (dI (grN 0 (lG p).2).2), .ow none (dI (lHead p)), .un, .ow none (dI ((lL0 p).1 :: (lLs p).1)), .un]) ?_) ?_
                · exact ev_callM (k := 0) (xs := dI (lG p).2) (ds := [.int tenP]) (tg := some tg) ⟨_, rfl, rfl⟩ (ea_cons (evten _) ea_nil) rfl rfl (.mk (lG p).2 tenP a7.1 tenP_pos.1 (bdc ⟨by have := tenP_pos.1; omega, tenP_pos.2⟩) a7.2)
                · dsimp only [List.set]
                  refine xs_for (fun i => [.ow (some tg) (dI (grN i (lG p).2).2), .ow none (dI (lHead p)), .un, .ow none (dI ((lL0 p).1 :: (lLs p).1)), .fr (.int (grN i (lG p).2).1)]) (ei_range1 (n := 2) (ea_cons ev_int ea_nil) (by omega) (by omega)) ?_ 2 rfl ?_
                  · intro i d hd
                    obtain ⟨hi, rfl⟩ := range_get hd
                    have hi : i < 2 := hi
                    have ih := grN_pool a7.1 i
                    refine ⟨_, as_name, ?_⟩
                    with_reducible apply x_toF (i := 2)
                    · dsimp only [List.set]
                      refine x_set (i := 4) (d := .int (grN (i + 1) (lG p).2).1) (Δ1 := [.ow (some tg) (dI (grN (i + 1) (lG p).2).2), .ow none (dI (lHead p)), .fr (.int i), .ow none (dI ((lL0 p).1 :: (lLs p).1)), .fr (.int (grN i (lG p).2).1)]) ?_
                      refine ev_add (i := (grN i (lG p).2).1 * tenP) (j := (draw (grN i (lG p).2).2 tenP).1) (ev_mul (ev_var rfl) (evten _) ?_) ?_
                      · have e : Bd 34 tenP := by unfold Bd; decide
                        exact (grN_bd (lG p).2 i).cm e (by omega)
                      · exact ev_callM (k := 0) (xs := dI (grN i (lG p).2).2) (ds := [.int tenP]) (tg := some tg) ⟨_, rfl, rfl⟩ (ea_cons (evten _) ea_nil) rfl rfl (.mk _ tenP ih.1 tenP_pos.1 (bdc ⟨by have := tenP_pos.1; omega, tenP_pos.2⟩) (by omega))
                    · rfl
                  · refine x_toF (i := 4) (x_setitem (k := 3) (i := 0) (z := 0) (ds := dI ((lL0 p).1 :: (lLs p).1)) (d := .int ((lL0 p).1 + (grN 2 (lG p).2).1)) (tg := none) (Δ1 := [.ow (some tg) (dI (grN 2 (lG p).2).2), .ow none (dI (lHead p)), .un, .ow none (dI ((lL0 p).1 :: (lLs p).1)), .fr (.int (grN 2 (lG p).2).1)]) (Δ2 := [.ow (some tg) (dI (grN 2 (lG p).2).2), .ow none (dI (lHead p)), .un, .ow none (dI ((lL0 p).1 :: (lLs p).1)), .fr (.int (grN 2 (lG p).2).1)]) ?_ ev_int ⟨_, rfl, rfl⟩ rfl ?_) ?_
                    · exact ev_add (ev_ixO (k := 3) ⟨_, rfl, rfl⟩ ev_int rfl (dI_nat (i := 0) (by simp))) (ev_var rfl)
                    · unfold ixN
                      rw [if_pos (by omega), if_pos (by simp)]; rfl
                    · rfl
              · have e1 : lPool p = (lG p).2 := by unfold lPool; rw [if_neg h7]
                have e2 : lLoop p = (lL0 p).1 :: (lLs p).1 := by unfold lLoop; rw [if_neg h7]
                rw [e1, e2]
                exact xl_if_f ht (decide_eq_false h7) x_next
            · refine x_freeze (i := 1) rfl ?_
              refine x_freeze (i := 3) rfl ?_
              dsimp only [List.set]
              with_reducible apply x_ret0
              · walk_at "ev"
              · rfl
  exact (B.raw hb .nil).imp fun vs H Q E h => by rw [List.append_nil]; exact h
end
end Gw


set_option Elab.async false
set_option linter.all false
set_option maxRecDepth 100000
set_option maxHeartbeats 4000000
namespace Gw
open PySem PySem.Spec PyProof.Rows L2 DL
local macro_rules | `(tactic| walk_at "bd") => `(tactic| first
  | assumption
  | exact Bd.i0 | exact Bd.i1 | exact Bd.i2 | exact Bd.i4 | exact Bd.m2 | exact Bd.m1
  | ((with_reducible apply BdT.a) <;> assumption) | ((with_reducible apply BdT.b) <;> assumption) | ((with_reducible apply BdT.c) <;> assumption) | ((with_reducible apply BdT.d) <;> assumption)
  | ((with_reducible apply Bd.mul) <;> walk_at "bd")
  | ((with_reducible apply Bd.add) <;> walk_at "bd")
  | ((with_reducible apply Bd.sub) <;> walk_at "bd")
  | ((with_reducible apply Bd.neg) <;> walk_at "bd"))
local macro_rules | `(tactic| walk_at "ev") => `(tactic| first
  | ((with_reducible show ExD _ _ _ _); try dsimp only [List.set])
  | with_reducible exact ev_int | with_reducible exact ev_non | with_reducible exact ev_bl | with_reducible exact ev_str
  | ((with_reducible apply ev_var); exact rfl)
  | with_reducible exact ea_nil
  | ((with_reducible apply ea_cons) <;> walk_at "ev")
  | ((with_reducible apply ev_add) <;> walk_at "ev")
  | ((with_reducible apply ev_sub) <;> walk_at "ev")
  | ((with_reducible apply ev_mul) <;> walk_at "ev")
  | ((with_reducible apply ev_fdiv) <;> walk_at "ev")
  | ((with_reducible apply ev_mod) <;> walk_at "ev")
  | ((with_reducible apply ev_lt) <;> walk_at "ev")
  | ((with_reducible apply ev_le) <;> walk_at "ev")
  | ((with_reducible apply ev_gt) <;> walk_at "ev")
  | ((with_reducible apply ev_ge) <;> walk_at "ev")
  | ((with_reducible apply ev_eqS (tb := tC (V.str _)) (hb := ev_str)) <;> walk_at "ev")
  | ((with_reducible apply ev_neS (tb := tC (V.str _)) (hb := ev_str)) <;> walk_at "ev")
  | ((with_reducible apply ev_eqI) <;> walk_at "ev")
  | ((with_reducible apply ev_neI) <;> walk_at "ev")
  | ((with_reducible apply ev_neg) <;> walk_at "ev")
  | ((with_reducible apply ev_gcd) <;> walk_at "ev")
  | ((with_reducible apply ev_fld) <;> walk_at "ev")
  | ((with_reducible apply et_test) <;> walk_at "ev")
  | ((with_reducible apply et_B) <;> walk_at "ev")
  | ((with_reducible apply et_not) <;> walk_at "ev")
  | ((with_reducible apply ev_tup) <;> walk_at "ev")
  | ((with_reducible apply ev_make') <;> walk_at "ev")
  | ((with_reducible apply ev_call') <;> walk_at "ev")
  | ((with_reducible apply ev_meth') <;> walk_at "ev")
  | ((with_reducible show List.length _ = _); exact rfl)
  | ((with_reducible show List.length _ + 1 = _); exact rfl)
  | ((with_reducible show List.lookup _ _ = _); exact rfl)
  | ((with_reducible apply et_or') <;> walk_at "ev")
  | ((with_reducible apply et_and') <;> walk_at "ev")
  | ((with_reducible apply ev_own2) <;> walk_at "ev")
  | ((with_reducible apply ev_own1) <;> walk_at "ev")
  | ((with_reducible apply ev_st) <;> walk_at "ev")
  | ((with_reducible apply ev_abs) <;> walk_at "ev")
  | ((with_reducible apply ev_max2) <;> walk_at "ev")
  | ((with_reducible apply ev_divmod) <;> walk_at "ev")
  | ((with_reducible apply ev_intI) <;> walk_at "ev")
  | ((with_reducible apply ev_isN) <;> walk_at "ev")
  | ((with_reducible apply ev_notN) <;> walk_at "ev")
  | ((with_reducible apply ev_eqS) <;> walk_at "ev")
  | ((with_reducible apply ev_neS) <;> walk_at "ev")
  | ((with_reducible apply ev_lenO); exact rfl)
  | ((with_reducible apply ev_len) <;> walk_at "ev")
  | ((with_reducible show D.items _ = _); first | assumption | exact rfl)
  | ((with_reducible show rTableI _ _ _); exact ⟨rfl, rfl⟩)
  | ((with_reducible show _ = false); first | rfl | (simp; done) | (simp; omega))
  | ((with_reducible show _ = true); first | rfl | (simp; done) | (simp; omega))
  | ((with_reducible show 2 = _); exact rfl)
  | ((with_reducible show 1 = _); exact rfl)
  | exact Txt.clTable ‹_› | exact Txt.clFrac ‹_› | exact Txt.clRow ‹_› | exact Txt.clRoot ‹_›
  | exact Txt.nTable_a ‹_› | exact Txt.nTable_b ‹_› | exact Txt.nTable_c ‹_› | exact Txt.nTable_d ‹_› | exact Txt.nFrac_top ‹_› | exact Txt.nFrac_bottom ‹_›
  | exact Txt.nRow_head ‹_› | exact Txt.nRow_loop ‹_› | exact Txt.nRow_kind ‹_› | exact Txt.nRoot_a ‹_› | exact Txt.nRoot_b ‹_› | exact Txt.nRoot_c ‹_› | exact Txt.nRoot_disc ‹_›
  | ((with_reducible apply Bd.cm) <;> first | walk_at "bd" | omega)
  | ((with_reducible show _ ≤ _); simp only [List.length_cons, List.length_nil]; omega)
  | ((with_reducible intro _); walk_at "ev")
  | skip)
local macro_rules | `(tactic| walk_at "set") => `(tactic| ((with_reducible apply xs_set) <;> walk_at "ev"))
local macro_rules | `(tactic| walk_at "ret") => `(tactic| ((with_reducible apply x_ret) <;> walk_at "ev"))
local macro_rules | `(tactic| walk_at "as4") => `(tactic| ((with_reducible (first | apply xs_as4 | apply xl_as4)) <;> walk_at "ev"))
local macro_rules | `(tactic| walk_at "as3") => `(tactic| ((with_reducible (first | apply xs_as3 | apply xl_as3)) <;> walk_at "ev"))
local macro_rules | `(tactic| walk_at "as2") => `(tactic| ((with_reducible (first | apply xs_as2 | apply xl_as2)) <;> walk_at "ev"))
local macro_rules | `(tactic| walk_at "par") => `(tactic| ((with_reducible (first | apply xs_par | apply x_par)) <;> walk_at "ev"))
local macro_rules | `(tactic| walk_at "fld") => `(tactic| ((with_reducible (first | apply xs_fld | apply x_fld)) <;> first | exact rfl | decide | walk_at "ev"))
local macro_rules | `(tactic| walk_at "guard") => `(tactic| ((with_reducible apply xs_guard) <;> walk_at "ev"))
local macro_rules | `(tactic| walk_at "skip") => `(tactic| ((with_reducible apply xs_skip) <;> walk_at "ev"))
local macro_rules | `(tactic| walk_at "take") => `(tactic| ((with_reducible apply xs_take) <;> walk_at "ev"))
local macro_rules | `(tactic| walk_at "clean") => `(tactic| try simp only [cxK, cxK', asnL, List.length_cons, List.length_nil, Nat.zero_add, Nat.reduceAdd])
section
variable {P : Program} {w : World} {K : Frag} {mg : Str → Option Value} {base : Heap}
theorem noIns_ints : ∀ xs : List Int, D.noInsL (dI xs) = true
  | [] => rfl
  | x :: xs => by show (true && D.noInsL (dI xs)) = true; rw [noIns_ints xs]; rfl
theorem lay_ints : ∀ xs : List Int, PyData.canLayAll0 (D.pyL (dI xs)) = true
  | [] => by simp [D.pyL, PyData.canLayAll0]
  | x :: xs => by
    show PyData.canLayAll0 (PyData.int x :: D.pyL (dI xs)) = true
    rw [PyData.canLayAll0, lay_ints xs, PyData.canLay0]; rfl
theorem dep_ints : ∀ xs : List Int, PyData.depthAll (D.pyL (dI xs)) = 0
  | [] => by simp [D.pyL, PyData.depthAll]
  | x :: xs => by
    show PyData.depthAll (PyData.int x :: D.pyL (dI xs)) = 0
    rw [PyData.depthAll, dep_ints xs, PyData.depth]; rfl
theorem shaped_lst (xs : List Int) : SeqAt.shaped (D.lst (dI xs)).py = true := by
  unfold SeqAt.shaped
  simp only [D.py, PyData.canLay0, PyData.depth, lay_ints, dep_ints]
  decide
theorem shaped_tup (xs : List Int) : SeqAt.shaped (D.tup (dI xs)).py = true := by
  unfold SeqAt.shaped
  simp only [D.py, PyData.canLay0, PyData.depth, lay_ints, dep_ints]
  decide
theorem eqv_lst (xs ys : List Int) : PyData.eqv (D.lst (dI xs)).py (D.lst (dI ys)).py = decide (xs = ys) := by
  simp only [D.py, PyData.eqv]; exact py_ints xs ys
theorem dI_at {r : List Int} (h : r ≠ []) (c : Int) : atI (dI r) (c % (r.length : Int)) = some (.int (Gd.rt r c)) := by
  have hl : 0 < r.length := List.length_pos_iff.mpr h
  have h1 : 0 ≤ c % (r.length : Int) := Int.emod_nonneg _ (by omega)
  have e : c % (r.length : Int) = (((c % (r.length : Int)).toNat : Nat) : Int) := by omega
  rw [e]
  apply atI_nat
  rw [List.getElem?_map, rt_get h]; rfl
theorem rep_get {t : List Int} : ∀ (k i : Nat), i < t.length * k → ((List.replicate k t).flatten).getD i 0 = t.getD (i % t.length) 0
  | 0, i, h => by simp at h
  | k + 1, i, h => by
    rw [List.replicate_succ, List.flatten_cons, List.getD_eq_getElem?_getD, List.getElem?_append]
    split
    · rename_i hi
      rw [Nat.mod_eq_of_lt hi, List.getD_eq_getElem?_getD]
    · rename_i hi
      have := rep_get (t := t) k (i - t.length) (by rw [Nat.mul_succ] at h; omega)
      rw [List.getD_eq_getElem?_getD] at this
      rw [this]
      congr 1
      have e : i = (i - t.length) + t.length := by omega
      have h2 : i % t.length = ((i - t.length) + t.length) % t.length := by rw [← e]
      rw [h2, Nat.add_mod_right]
theorem rep_len {t : List Int} (k : Nat) : ((List.replicate k t).flatten).length = t.length * k := by
  rw [List.length_flatten, List.map_replicate, List.sum_replicate_nat, Nat.mul_comm]
theorem rep_per {l : List Int} {m k : Nat} (hm : 1 ≤ m) (hk : l.length = m * k) (k1 : 1 ≤ k) : (List.replicate k (l.take m)).flatten = l ↔ Gd.Per l m := by
  have tl : (l.take m).length = m := by
    rw [List.length_take]
    have : m * 1 ≤ m * k := Nat.mul_le_mul_left _ k1
    omega
  have tg : ∀ i, i < m → (l.take m).getD i 0 = l.getD i 0 := fun i hi => by simp [List.getD, hi]
  constructor
  · intro h i hi
    have h1 := rep_get (t := l.take m) k i (by rw [tl, ← hk]; exact hi)
    rw [h, tl, tg _ (Nat.mod_lt _ (by omega))] at h1
    exact h1
  · intro h
    apply List.ext_getElem
    · rw [rep_len, tl, hk]
    · intro i h1 h2
      have e1 := rep_get (t := l.take m) k i (by rw [tl, ← hk]; exact h2)
      rw [tl, tg _ (Nat.mod_lt _ (by omega)), ← h i h2, List.getD_eq_getElem?_getD, List.getD_eq_getElem?_getD, List.getElem?_eq_getElem h1, List.getElem?_eq_getElem h2] at e1
      exact e1
theorem rot_cut {r : List Int} (h : r ≠ []) (c : Int) : r.drop (c % (r.length : Int)).toNat ++ r.take (c % (r.length : Int)).toNat = Gd.rot r c := by
  have hl : 0 < r.length := List.length_pos_iff.mpr h
  have h1 : 0 ≤ c % (r.length : Int) := Int.emod_nonneg _ (by omega)
  have h2 : c % (r.length : Int) < r.length := Int.emod_lt_of_pos _ (by omega)
  generalize hk : (c % (r.length : Int)).toNat = k
  have hkl : k < r.length := by omega
  have hck : c % (r.length : Int) = k := by omega
  unfold Gd.rot
  apply List.ext_getElem
  · rw [List.length_append, List.length_drop, List.length_take, List.length_map, List.length_range]; omega
  · intro i g1 g2
    have hi : i < r.length := by rwa [List.length_map, List.length_range] at g2
    rw [List.getElem_map, List.getElem_range]
    have e : Gd.rt r (c + i) = Gd.rt r (((k + i : Nat) : Int)) := by
      rw [← Gd.rt_mod (c + i), Int.add_emod, hck, ← Gd.rt_mod ((k + i : Nat) : Int)]
      congr 1
      rw [Int.natCast_add, Int.add_emod (k : Int), ← hck]
      simp
    rw [e, Gd.rt_nat h, List.getElem_append]
    split
    · rename_i q
      rw [List.length_drop] at q
      rw [Nat.mod_eq_of_lt (by omega), List.getElem_drop, List.getD_eq_getElem?_getD, List.getElem?_eq_getElem (by omega)]; rfl
    · rename_i q
      rw [List.length_drop] at q
      have e2 : (k + i) % r.length = i - (r.length - k) := by
        rw [show k + i = (i - (r.length - k)) + r.length by omega, Nat.add_mod_right, Nat.mod_eq_of_lt (by omega)]
      simp only [List.getElem_take, List.length_drop, e2]
      rw [List.getD_eq_getElem?_getD, List.getElem?_eq_getElem (by omega)]; rfl
inductive rShort : List D → D → Prop
  | mk (h l : List Int) (h0 : h ≠ []) (l0 : l ≠ []) (hz : h.length ≤ 1000) (lz : l.length ≤ 1000) : rShort [.lst (dI h), .lst (dI l)] (.tup [.lst (dI (Gd.front h l)), .lst (dI (Gd.ring h l))])
abbrev N__law_short : List Str := [("head" : Str), ("loop" : Str), ("size" : Str), ("ring" : Str), ("many" : Str), ("back" : Str), ("first" : Str)]
theorem sc__law_short : FnScope N__law_short [("head" : Str), ("loop" : Str)] (defScope s__law_short) := ⟨rfl, rfl, rfl, by decide +kernel, rfl, by decide +kernel, by decide +kernel⟩
theorem ok__law_short {f : Addr} {fd : FuncData} (F : FunD K "_law_short" "_law_short" (defArgs s__law_short) (defBody s__law_short) (defScope s__law_short) [] [] f fd) (hb : Binds K fd [("head" : Str), ("loop" : Str)] []) (T : Txt K mg) : FnR P w K mg base CX0 1 f (spD K 2 rShort) := by
  have B : FnOk P w K mg base CX0 1 f fd [("head" : Str), ("loop" : Str)] (spD K 2 rShort) := by
    refine F.ok sc__law_short (fun vs H Q E h => h.1) (fun cdv A outer s H vs Q E hr h => ?_)
    have hu := hr.units
    have hu1 : _ + 1 < cLine := Nat.lt_of_le_of_lt (Nat.add_le_add_left (by decide : 1 ≤ 64) _) hr.units
    have nd := sc__law_short.nd
    refine ⟨_, PSs.nox (pss_cons (ps_set (i := 2) nd rfl (Or.inl rfl) (pe_callB call_lenA (by rfl) T.b_len (by decide +kernel) (pa_cons (pv 1) pa_nil)))
      (pss_cons (ps_set (i := 3) nd rfl (Or.inl rfl) (pe_callTy call_listA (by rfl) T.b_list (by decide +kernel) (pa_cons (pv 1) pa_nil)))
      (pss_cons (ps_for PassesOwn.never rfl (pi_range2 rfl T.b_range (pa_cons pe_int (pa_cons (pv 2) pa_nil))) (pg_name (i := 4) nd rfl (Or.inl rfl)) (pss_one (ps_if (PW.pt (pw_and (pt_cmpR op_eq (pe_op op_mod (pv 2) (pv 4)) pe_int (nomark _)) (pw_and1 (pt_cmpR (op_eqD hu) (pe_op op_rep (pe_slice sl_any (pv 1) po_none (po_some (pv 4))) (pe_op op_fdivW (pv 2) (pv 4))) (pv 1) (nomark _))))) (pss_cons (ps_set (i := 3) nd rfl (Or.inl rfl) (pe_slice sl_any (pv 1) po_none (po_some (pv 4))))
          (pss_one ps_break)) pss_nil)))
      (pss_cons (ps_set (i := 5) nd rfl (Or.inl rfl) pe_int)
      (pss_cons (ps_while PassesOwn.never (PW.pt (pw_and (pt_cmpR op_lt (pv 5) (pe_op op_sub (pe_callB call_lenA (by rfl) T.b_len (by decide +kernel) (pa_cons (pv 0) pa_nil)) pe_int) (nomark _)) (pw_and1 (pt_cmpR op_eq (pe_ix (show IxR _ (rIx K) from ix_seq) (pv 0) (pe_op op_sub (pe_op op_sub (pe_callB call_lenA (by rfl) T.b_len (by decide +kernel) (pa_cons (pv 0) pa_nil)) pe_int) (pv 5)) (fun _ _ => rfl)) (pe_ix (show IxR _ (rIx K) from ix_seq) (pv 3) (pe_op op_mod (pe_callTy call_int1 (by rfl) T.b_int (by decide +kernel) (pa_cons (pe_op op_sub (pe_un un_neg pe_int) (pv 5)) pa_nil)) (pe_callB call_lenA (by rfl) T.b_len (by decide +kernel) (pa_cons (pv 3) pa_nil))) (fun _ _ => rfl)) (nomark _))))) (pss_one (ps_set (i := 5) nd rfl (Or.inl rfl) (pe_op op_add (pv 5) pe_int))))
      (pss_cons (ps_set (i := 6) nd rfl (Or.inl rfl) (pe_op op_mod (pe_callTy call_int1 (by rfl) T.b_int (by decide +kernel) (pa_cons (pe_un un_neg (pv 5)) pa_nil)) (pe_callB call_lenA (by rfl) T.b_len (by decide +kernel) (pa_cons (pv 3) pa_nil))))
      (pss_one (ps_ret (pe_tup (pa_cons (pe_slice sl_any (pv 0) po_none (po_some (pe_op op_sub (pe_callB call_lenA (by rfl) T.b_len (by decide +kernel) (pa_cons (pv 0) pa_nil)) (pv 5)))) (pa_cons (pe_op op_cat (pe_slice sl_any (pv 3) (po_some (pv 6)) po_none) (pe_slice sl_any (pv 3) po_none (po_some (pv 6)))) pa_nil))))))))))), enter h (by decide) ?_⟩
    rintro _ _ ⟨h, l, h0, l0, hz, lz⟩ _
    left
    show ExD K _ [.fr (.lst (dI h)), .fr (.lst (dI l)), .un, .un, .un, .un, .un] _
    walk_at "clean"
    have hp : 0 < h.length := List.length_pos_iff.mpr h0
    have lp : 0 < l.length := List.length_pos_iff.mpr l0
    obtain ⟨p1, p2⟩ := Gd.least_prim l0
    have pl : (Gd.least l).length ≤ 1000 := by
      unfold Gd.least
      split
      · simp; omega
      · exact lz
    have plp : 0 < (Gd.least l).length := List.length_pos_iff.mpr p2
    have bl := Gd.back_le h (Gd.least l)
    with_reducible apply xs_set (d := .int l.length)
    · with_reducible apply ev_is
      · walk_at "ev"
      · rw [List.length_map]
    · dsimp only [List.set]
      with_reducible apply xs_setL
      · with_reducible apply el_list
        · walk_at "ev"
        · rfl
      · dsimp only [List.set]
        refine x_freeze (i := 3) rfl ?_
        dsimp only [List.set]
        refine x_seq (Δ1 := [.fr (.lst (dI h)), .fr (.lst (dI l)), .fr (.int l.length), .fr (.lst (dI (Gd.least l))), .un, .un, .un]) ?_ ?_
        · -- the test at a size
          have test : ∀ j : Nat, j + 1 < l.length → EvT K (tAnd (tTest (tOp rEq (tOp (rI (fun _ j => 0 < j) fun i j => V.int (i % j)) (tVar 2) (tVar 4)) (tC (.int 0)))) (tTest (tOp (rEqD K) (tOp rRep (tSl (rSlAny K) (tVar 1) tNoPart (tPart (tVar 4))) (tOp (rI CDivW fun i j => V.int (i / j)) (tVar 2) (tVar 4))) (tVar 1)))) [.fr (.lst (dI h)), .fr (.lst (dI l)), .fr (.int l.length), .fr (.lst (dI l)), .fr (.int (1 + (j : Int))), .un, .un] (Gd.sizeOk l (j + 1)) [.fr (.lst (dI h)), .fr (.lst (dI l)), .fr (.int l.length), .fr (.lst (dI l)), .fr (.int (1 + (j : Int))), .un, .un] := fun j hj => by
            have e1 : (1 + (j : Int)) = ((j + 1 : Nat) : Int) := by omega
            rw [e1]
            unfold Gd.sizeOk
            have em : (l.length : Int) % ((j + 1 : Nat) : Int) = ((l.length % (j + 1) : Nat) : Int) := by rw [Int.natCast_emod]
            by_cases hm : l.length % (j + 1) = 0
            · obtain ⟨k, hk⟩ := Nat.dvd_of_mod_eq_zero hm
              have hk1 : 1 ≤ k := by
                rcases Nat.eq_zero_or_pos k with e | e
                · subst e; rw [Nat.mul_zero] at hk; omega
                · exact e
              have hkl : k ≤ l.length := by rw [hk]; exact Nat.le_mul_of_pos_left _ (by omega)
              have ed : (l.length : Int) / ((j + 1 : Nat) : Int) = (k : Int) := by
                rw [hk, Int.natCast_mul, Int.mul_ediv_cancel_left _ (by omega)]
              have bj : Bd 20 ((j + 1 : Nat) : Int) := by unfold Bd; omega
              with_reducible apply et_is
              · with_reducible apply et_and'
                · walk_at "ev"
                  omega
                · intro _
                  with_reducible apply et_test
                  with_reducible apply ev_eqD (x := .lst (dI (List.replicate k (l.take (j + 1))).flatten)) (y := .lst (dI l))
                  · with_reducible apply ev_l
                    with_reducible apply el_is
                    · with_reducible apply el_rep (ds := dI (l.take (j + 1))) (k := (k : Int))
                      · with_reducible apply ev_l
                        with_reducible apply el_is
                        · with_reducible apply el_sl
                          · walk_at "ev"
                          · exact eo_none
                          · with_reducible apply eo_some
                            walk_at "ev"
                        · rw [cutD_take (by rw [List.length_map]; omega), dI, dI, List.map_take]
                      · with_reducible apply ev_is
                        · walk_at "ev"
                          exact Bd.cd bj (by omega) (by omega)
                        · rw [ed]
                      · omega
                      · omega
                      · rw [List.length_map, List.length_take]
                        have : min (j + 1) l.length * k ≤ (j + 1) * k := Nat.mul_le_mul_right _ (Nat.min_le_left _ _)
                        rw [← hk] at this
                        simp only [Int.toNat_natCast]
                        omega
                    · simp only [Int.toNat_natCast]
                      rw [dI, dI, List.map_flatten, List.map_replicate]
                  · walk_at "ev"
                  · exact noIns_ints _
                  · exact noIns_ints _
                  · exact shaped_lst _
                  · exact shaped_lst _
              · rw [eqv_lst, em, hm]
                simp only [rep_per (show 1 ≤ j + 1 by omega) hk hk1]
                simp
            · have e2 : decide (l.length % (j + 1) = 0) = false := decide_eq_false hm
              rw [e2, Bool.false_and]
              with_reducible apply et_is
              · with_reducible apply et_and' (a := false) (b := false)
                · with_reducible apply et_is
                  · walk_at "ev"
                    omega
                  · rw [em]; apply decide_eq_false; omega
                · intro z; cases z
              · rfl
          have evI : EvI K (iRng2 (tCons (tC (.int 1)) (tCons (tVar 2) tNil))) [.fr (.lst (dI h)), .fr (.lst (dI l)), .fr (.int l.length), .fr (.lst (dI l)), .un, .un, .un] ((List.range (l.length - 1)).map fun i => D.int (1 + (i : Nat))) [.fr (.lst (dI h)), .fr (.lst (dI l)), .fr (.int l.length), .fr (.lst (dI l)), .un, .un, .un] := by
            have h := ei_range2 (K := K) (Δ := [.fr (.lst (dI h)), .fr (.lst (dI l)), .fr (.int l.length), .fr (.lst (dI l)), .un, .un, .un]) (lo := 1) (hi := (l.length : Int)) (ea_cons ev_int (ea_cons (ev_var (i := 2) rfl) ea_nil)) (by omega)
            have e : ((l.length : Int) - 1).toNat = l.length - 1 := by omega
            rw [e] at h
            exact h
          have no : ∀ j, l.length / 2 ≤ j → j + 1 < l.length → Gd.sizeOk l (j + 1) = false := fun j h1 h2 => by
            unfold Gd.sizeOk
            rw [decide_eq_false, Bool.false_and]
            intro hm
            obtain ⟨k, hk⟩ := Nat.dvd_of_mod_eq_zero hm
            have hk2 : 2 ≤ k := by
              rcases Nat.lt_or_ge k 2 with h | h
              · have : k = 0 ∨ k = 1 := by omega
                rcases this with e | e
                · subst e; rw [Nat.mul_zero] at hk; omega
                · subst e; rw [Nat.mul_one] at hk; omega
              · exact h
            have : (j + 1) * 2 ≤ (j + 1) * k := Nat.mul_le_mul_left _ hk2
            omega
          rcases least_find (r := l) with ⟨i, hi, hok, hfirst, hle⟩ | ⟨hall, hle⟩
          · rw [hle]
            refine x_forC (k := i) (o := .nx _) evI (fun _ => [.fr (.lst (dI h)), .fr (.lst (dI l)), .fr (.int l.length), .fr (.lst (dI l)), .un, .un, .un]) rfl (by simp; omega) ?_ (.inr ⟨.int (1 + (i : Nat)), [.fr (.lst (dI h)), .fr (.lst (dI l)), .fr (.int l.length), .fr (.lst (dI l)), .fr (.int (1 + (i : Nat))), .un, .un], ?_, as_name, .inr ⟨_, rfl, ?_⟩⟩)
            · intro j d hj hd
              obtain ⟨hjl, rfl⟩ := range_get hd
              refine ⟨_, as_name, .inl ?_⟩
              with_reducible apply x_toF (i := 4)
              · dsimp only [List.set]
                exact xl_if_f (test j (by omega)) (hfirst j hj) x_next
              · rfl
            · rw [List.getElem?_map, List.getElem?_range (by omega)]; rfl
            · refine xl_if_t (test i (by omega)) hok ?_
              refine x_seq (x_setL (i := 3) (ds := dI (l.take (i + 1))) (Δ1 := [.fr (.lst (dI h)), .fr (.lst (dI l)), .fr (.int l.length), .fr (.lst (dI l)), .fr (.int (1 + (i : Nat))), .un, .un]) ?_) ?_
              · with_reducible apply el_is
                · with_reducible apply el_sl
                  · walk_at "ev"
                  · exact eo_none
                  · with_reducible apply eo_some
                    walk_at "ev"
                · have e1 : (1 + (i : Int)) = ((i + 1 : Nat) : Int) := by omega
                  rw [e1, cutD_take (by rw [List.length_map]; omega), dI, dI, List.map_take]
              · dsimp only [List.set]
                refine x_freeze (i := 3) rfl ?_
                refine x_forget (i := 4) ?_
                exact x_break
          · rw [hle]
            refine xl_for (fun _ => [.fr (.lst (dI h)), .fr (.lst (dI l)), .fr (.int l.length), .fr (.lst (dI l)), .un, .un, .un]) evI ?_ _ rfl
            intro j d hd
            obtain ⟨hjl, rfl⟩ := range_get hd
            refine ⟨_, as_name, ?_⟩
            with_reducible apply x_toF (i := 4)
            · dsimp only [List.set]
              refine xl_if_f (test j (by omega)) ?_ x_next
              rcases Nat.lt_or_ge j (l.length / 2) with h1 | h1
              · exact hall j h1
              · exact no j h1 (by omega)
            · rfl
        · with_reducible apply xs_set (d := .int ((0 : Nat) : Int))
          · exact ev_int
          · dsimp only [List.set]
            have go : ∀ i, i < Gd.back h (Gd.least l) → h.getD (h.length - 1 - i) 0 = Gd.rt (Gd.least l) (-1 - (i : Int)) := fun i hi => Gd.backN_go h (Gd.least l) _ 0 i (Nat.zero_le _) hi
            have second : ∀ i : Nat, i < h.length - 1 → EvT K (tTest (tOp rEq (tOp (rIx K) (tVar 0) (tOp (rI0 fun i j => V.int (i - j)) (tOp (rI0 fun i j => V.int (i - j)) (tCB (rLenA K) (tCons (tVar 0) tNil)) (tC (.int 1))) (tVar 5))) (tOp (rIx K) (tVar 3) (tOp (rI (fun _ j => 0 < j) fun i j => V.int (i % j)) (tCB (fun xs H Q => (∃ i, xs = [V.int i] ∧ Q (.int i) H) ∨ ∃ k, xs = [V.bl k] ∧ Q (.int (if k then 1 else 0)) H) (tCons (tOp (rI0 fun i j => V.int (i - j)) (tUn (rU fun i => V.int (-i)) (tC (.int 1))) (tVar 5)) tNil)) (tCB (rLenA K) (tCons (tVar 3) tNil)))))) [.fr (.lst (dI h)), .fr (.lst (dI l)), .fr (.int l.length), .fr (.lst (dI (Gd.least l))), .un, .fr (.int (i : Nat)), .un] (decide (h.getD (h.length - 1 - i) 0 = Gd.rt (Gd.least l) (-1 - (i : Int)))) [.fr (.lst (dI h)), .fr (.lst (dI l)), .fr (.int l.length), .fr (.lst (dI (Gd.least l))), .un, .fr (.int (i : Nat)), .un] := fun i hi => by
              with_reducible apply et_test
              with_reducible apply ev_eqI
              · with_reducible apply ev_ix
                · walk_at "ev"
                · walk_at "ev"
                · rfl
                · have e : (((dI h).length : Nat) : Int) - 1 - (i : Int) = ((h.length - 1 - i : Nat) : Int) := by rw [List.length_map]; omega
                  rw [e]
                  exact dI_nat (by omega)
              · with_reducible apply ev_ix
                · walk_at "ev"
                · with_reducible apply ev_mod
                  · with_reducible apply ev_intI
                    exact ev_sub (ev_neg (i := 1) ev_int) (ev_var rfl)
                  · walk_at "ev"
                  · rw [List.length_map]; omega
                · rfl
                · rw [List.length_map]
                  exact dI_at p2 _
            refine xs_while (n := Gd.back h (Gd.least l)) (fun i => [.fr (.lst (dI h)), .fr (.lst (dI l)), .fr (.int l.length), .fr (.lst (dI (Gd.least l))), .un, .fr (.int (i : Nat)), .un]) rfl ?_ ?_ ?_
            · intro i hi
              refine ⟨?_, ?_⟩
              · with_reducible apply et_is
                · with_reducible apply et_and'
                  · walk_at "ev"
                  · intro _
                    exact second i (by omega)
                · rw [go i hi, List.length_map]
                  simp; omega
              · exact x_to (x_set (ev_add (ev_var rfl) ev_int)) rfl
            · have stop := Gd.backN_stop h (Gd.least l) (h.length - 1) 0
              rcases Nat.lt_or_ge (Gd.back h (Gd.least l)) (h.length - 1) with hlt | hge
              · with_reducible apply et_is
                · with_reducible apply et_and'
                  · walk_at "ev"
                  · intro _
                    exact second _ hlt
                · rcases stop with hs | hs
                  · have : Gd.back h (Gd.least l) = h.length - 1 := by unfold Gd.back; omega
                    omega
                  · have hs' : h.getD (h.length - 1 - Gd.back h (Gd.least l)) 0 ≠ Gd.rt (Gd.least l) (-1 - (Gd.back h (Gd.least l) : Int)) := hs
                    rw [decide_eq_false hs', Bool.and_false]
              · with_reducible apply et_is
                · with_reducible apply et_and' (a := false) (b := false)
                  · with_reducible apply et_is
                    · walk_at "ev"
                    · rw [List.length_map]; simp; omega
                  · intro z; cases z
                · rfl
            · with_reducible apply xs_set (d := .int ((((-(Gd.back h (Gd.least l) : Int)) % ((Gd.least l).length : Int)).toNat : Nat) : Int))
              · with_reducible apply ev_is
                · with_reducible apply ev_mod
                  · with_reducible apply ev_intI
                    exact ev_neg (ev_var rfl)
                  · walk_at "ev"
                  · rw [List.length_map]; omega
                · rw [List.length_map]
                  have := Int.emod_nonneg (-(Gd.back h (Gd.least l) : Int)) (show ((Gd.least l).length : Int) ≠ 0 by omega)
                  congr 1; omega
              · dsimp only [List.set]
                have hcut := rot_cut p2 (-(Gd.back h (Gd.least l) : Int))
                have hk2 := Int.emod_lt_of_pos (-(Gd.back h (Gd.least l) : Int)) (show (0 : Int) < (Gd.least l).length by omega)
                have hk3 := Int.emod_nonneg (-(Gd.back h (Gd.least l) : Int)) (show ((Gd.least l).length : Int) ≠ 0 by omega)
                generalize hkk : ((-(Gd.back h (Gd.least l) : Int)) % ((Gd.least l).length : Int)).toNat = k at *
                have hkl : k ≤ (Gd.least l).length := by omega
                with_reducible apply x_ret
                with_reducible apply ev_tup
                · with_reducible apply ea_cons (d := .lst (dI (Gd.front h l)))
                  · with_reducible apply ev_l
                    with_reducible apply el_is
                    · with_reducible apply el_sl
                      · walk_at "ev"
                      · exact eo_none
                      · with_reducible apply eo_some
                        walk_at "ev"
                    · unfold Gd.front
                      have e : (((dI h).length : Nat) : Int) - (Gd.back h (Gd.least l) : Int) = ((h.length - Gd.back h (Gd.least l) : Nat) : Int) := by
                        rw [List.length_map]; omega
                      rw [e, cutD_take (by rw [List.length_map]; omega), dI, dI, List.map_take]
                  · with_reducible apply ea_cons (d := .lst (dI (Gd.ring h l)))
                    · with_reducible apply ev_l
                      with_reducible apply el_is
                      · with_reducible apply el_cat
                        · with_reducible apply ev_l
                          with_reducible apply el_sl
                          · walk_at "ev"
                          · with_reducible apply eo_some
                            walk_at "ev"
                          · exact eo_none
                        · with_reducible apply ev_l
                          with_reducible apply el_sl
                          · walk_at "ev"
                          · exact eo_none
                          · with_reducible apply eo_some
                            walk_at "ev"
                        · rw [cutD_take (by rw [List.length_map]; omega), cutD_drop (by rw [List.length_map]; omega)]
                          simp; omega
                      · rw [cutD_take (by rw [List.length_map]; omega), cutD_drop (by rw [List.length_map]; omega)]
                        unfold Gd.ring
                        rw [← hcut]
                        simp only [dI, List.map_append, List.map_drop, List.map_take]
                    · exact ea_nil
                · simp
  exact (B.raw hb .nil).imp fun vs H Q E h => by rw [List.append_nil]; exact h
end
end Gw


set_option Elab.async false
set_option linter.all false
set_option maxRecDepth 100000
set_option maxHeartbeats 4000000
namespace Gw
open PySem PySem.Spec PyProof.Rows L2 DL
local macro_rules | `(tactic| walk_at "bd") => `(tactic| first
  | assumption
  | exact Bd.i0 | exact Bd.i1 | exact Bd.i2 | exact Bd.i4 | exact Bd.m2 | exact Bd.m1
  | ((with_reducible apply BdT.a) <;> assumption) | ((with_reducible apply BdT.b) <;> assumption) | ((with_reducible apply BdT.c) <;> assumption) | ((with_reducible apply BdT.d) <;> assumption)
  | ((with_reducible apply Bd.mul) <;> walk_at "bd")
  | ((with_reducible apply Bd.add) <;> walk_at "bd")
  | ((with_reducible apply Bd.sub) <;> walk_at "bd")
  | ((with_reducible apply Bd.neg) <;> walk_at "bd"))
local macro_rules | `(tactic| walk_at "ev") => `(tactic| first
  | ((with_reducible show ExD _ _ _ _); try dsimp only [List.set])
  | with_reducible exact ev_int | with_reducible exact ev_non | with_reducible exact ev_bl | with_reducible exact ev_str
  | ((with_reducible apply ev_var); exact rfl)
  | with_reducible exact ea_nil
  | ((with_reducible apply ea_cons) <;> walk_at "ev")
  | ((with_reducible apply ev_add) <;> walk_at "ev")
  | ((with_reducible apply ev_sub) <;> walk_at "ev")
  | ((with_reducible apply ev_mul) <;> walk_at "ev")
  | ((with_reducible apply ev_fdiv) <;> walk_at "ev")
  | ((with_reducible apply ev_mod) <;> walk_at "ev")
  | ((with_reducible apply ev_lt) <;> walk_at "ev")
  | ((with_reducible apply ev_le) <;> walk_at "ev")
  | ((with_reducible apply ev_gt) <;> walk_at "ev")
  | ((with_reducible apply ev_ge) <;> walk_at "ev")
  | ((with_reducible apply ev_eqS (tb := tC (V.str _)) (hb := ev_str)) <;> walk_at "ev")
  | ((with_reducible apply ev_neS (tb := tC (V.str _)) (hb := ev_str)) <;> walk_at "ev")
  | ((with_reducible apply ev_eqI) <;> walk_at "ev")
  | ((with_reducible apply ev_neI) <;> walk_at "ev")
  | ((with_reducible apply ev_neg) <;> walk_at "ev")
  | ((with_reducible apply ev_gcd) <;> walk_at "ev")
  | ((with_reducible apply ev_fld) <;> walk_at "ev")
  | ((with_reducible apply et_test) <;> walk_at "ev")
  | ((with_reducible apply et_B) <;> walk_at "ev")
  | ((with_reducible apply et_not) <;> walk_at "ev")
  | ((with_reducible apply ev_tup) <;> walk_at "ev")
  | ((with_reducible apply ev_make') <;> walk_at "ev")
  | ((with_reducible apply ev_call') <;> walk_at "ev")
  | ((with_reducible apply ev_meth') <;> walk_at "ev")
  | ((with_reducible show List.length _ = _); exact rfl)
  | ((with_reducible show List.length _ + 1 = _); exact rfl)
  | ((with_reducible show List.lookup _ _ = _); exact rfl)
  | ((with_reducible apply et_or') <;> walk_at "ev")
  | ((with_reducible apply et_and') <;> walk_at "ev")
  | ((with_reducible apply ev_own2) <;> walk_at "ev")
  | ((with_reducible apply ev_own1) <;> walk_at "ev")
  | ((with_reducible apply ev_st) <;> walk_at "ev")
  | ((with_reducible apply ev_abs) <;> walk_at "ev")
  | ((with_reducible apply ev_max2) <;> walk_at "ev")
  | ((with_reducible apply ev_divmod) <;> walk_at "ev")
  | ((with_reducible apply ev_intI) <;> walk_at "ev")
  | ((with_reducible apply ev_isN) <;> walk_at "ev")
  | ((with_reducible apply ev_notN) <;> walk_at "ev")
  | ((with_reducible apply ev_eqS) <;> walk_at "ev")
  | ((with_reducible apply ev_neS) <;> walk_at "ev")
  | ((with_reducible apply ev_lenO); exact rfl)
  | ((with_reducible apply ev_len) <;> walk_at "ev")
  | ((with_reducible show D.items _ = _); first | assumption | exact rfl)
  | ((with_reducible show rTableI _ _ _); exact ⟨rfl, rfl⟩)
  | ((with_reducible show _ = false); first | rfl | (simp; done) | (simp; omega))
  | ((with_reducible show _ = true); first | rfl | (simp; done) | (simp; omega))
  | ((with_reducible show 2 = _); exact rfl)
  | ((with_reducible show 1 = _); exact rfl)
  | exact Txt.clTable ‹_› | exact Txt.clFrac ‹_› | exact Txt.clRow ‹_› | exact Txt.clRoot ‹_›
  | exact Txt.nTable_a ‹_› | exact Txt.nTable_b ‹_› | exact Txt.nTable_c ‹_› | exact Txt.nTable_d ‹_› | exact Txt.nFrac_top ‹_› | exact Txt.nFrac_bottom ‹_›
  | exact Txt.nRow_head ‹_› | exact Txt.nRow_loop ‹_› | exact Txt.nRow_kind ‹_› | exact Txt.nRoot_a ‹_› | exact Txt.nRoot_b ‹_› | exact Txt.nRoot_c ‹_› | exact Txt.nRoot_disc ‹_›
  | ((with_reducible apply Bd.cm) <;> first | walk_at "bd" | omega)
  | ((with_reducible show _ ≤ _); simp only [List.length_cons, List.length_nil]; omega)
  | ((with_reducible intro _); walk_at "ev")
  | skip)
local macro_rules | `(tactic| walk_at "set") => `(tactic| ((with_reducible apply xs_set) <;> walk_at "ev"))
local macro_rules | `(tactic| walk_at "ret") => `(tactic| ((with_reducible apply x_ret) <;> walk_at "ev"))
local macro_rules | `(tactic| walk_at "as4") => `(tactic| ((with_reducible (first | apply xs_as4 | apply xl_as4)) <;> walk_at "ev"))
local macro_rules | `(tactic| walk_at "as3") => `(tactic| ((with_reducible (first | apply xs_as3 | apply xl_as3)) <;> walk_at "ev"))
local macro_rules | `(tactic| walk_at "as2") => `(tactic| ((with_reducible (first | apply xs_as2 | apply xl_as2)) <;> walk_at "ev"))
local macro_rules | `(tactic| walk_at "par") => `(tactic| ((with_reducible (first | apply xs_par | apply x_par)) <;> walk_at "ev"))
local macro_rules | `(tactic| walk_at "fld") => `(tactic| ((with_reducible (first | apply xs_fld | apply x_fld)) <;> first | exact rfl | decide | walk_at "ev"))
local macro_rules | `(tactic| walk_at "guard") => `(tactic| ((with_reducible apply xs_guard) <;> walk_at "ev"))
local macro_rules | `(tactic| walk_at "skip") => `(tactic| ((with_reducible apply xs_skip) <;> walk_at "ev"))
local macro_rules | `(tactic| walk_at "take") => `(tactic| ((with_reducible apply xs_take) <;> walk_at "ev"))
local macro_rules | `(tactic| walk_at "clean") => `(tactic| try simp only [cxK, cxK', asnL, List.length_cons, List.length_nil, Nat.zero_add, Nat.reduceAdd])
local macro_rules | `(tactic| walk_at "ev") => `(tactic| first
  | ((with_reducible apply ev_ix) <;> walk_at "ev")
  | ((with_reducible show atI _ _ = _); exact rfl))
section
variable {P : Program} {w : World} {K : Frag} {mg : Str → Option Value} {base : Heap}
abbrev tT (x : Gd.Tb) : D := .tup [.int x.a, .int x.b, .int x.c, .int x.d]
inductive rProduct : List D → D → Prop
  | mk (x : D) (ts : List Int) (b : Nat) (hx : x.items = some (dI ts)) (hb : ∀ t ∈ ts, Bd b t) (hm : ts.length * (b + 1) + b ≤ 400000) : rProduct [x] (tT (Gd.prod ts))
abbrev N__law_product : List Str := [("turns" : Str), ("a" : Str), ("b" : Str), ("c" : Str), ("d" : Str), ("turn" : Str)]
theorem sc__law_product : FnScope N__law_product [("turns" : Str)] (defScope s__law_product) := ⟨rfl, rfl, rfl, by decide +kernel, rfl, by decide +kernel, by decide +kernel⟩
theorem ok__law_product {f : Addr} {fd : FuncData} (F : FunD K "_law_product" "_law_product" (defArgs s__law_product) (defBody s__law_product) (defScope s__law_product) [] [] f fd) (hb : Binds K fd [("turns" : Str)] []) (T : Txt K mg) : FnR P w K mg base CX0 1 f (spD K 1 rProduct) := by
  have B : FnOk P w K mg base CX0 1 f fd [("turns" : Str)] (spD K 1 rProduct) := by
    refine F.ok sc__law_product (fun vs H Q E h => h.1) (fun cdv A outer s H vs Q E hr h => ?_)
    have hu := hr.units
    have hu1 : _ + 1 < cLine := Nat.lt_of_le_of_lt (Nat.add_le_add_left (by decide : 1 ≤ 64) _) hr.units
    have nd := sc__law_product.nd
    refine ⟨_, PSs.nox (pss_cons (ps_asg (pe_tup (pa_cons pe_int (pa_cons pe_int (pa_cons pe_int (pa_cons pe_int pa_nil))))) (pg_tup rfl (pgs_cons (pg_name (i := 1) nd rfl (Or.inl rfl)) (pgs_cons (pg_name (i := 2) nd rfl (Or.inl rfl)) (pgs_cons (pg_name (i := 3) nd rfl (Or.inl rfl)) (pgs_cons (pg_name (i := 4) nd rfl (Or.inl rfl)) pgs_nil))))))
      (pss_cons (ps_for PassesOwn.never rfl (pi_seq (pv 0)) (pg_name (i := 5) nd rfl (Or.inl rfl)) (pss_one (ps_asg (pe_tup (pa_cons (pe_op op_add (pe_op op_mulW (pv 1) (pv 5)) (pv 2)) (pa_cons (pv 1) (pa_cons (pe_op op_add (pe_op op_mulW (pv 3) (pv 5)) (pv 4)) (pa_cons (pv 3) pa_nil))))) (pg_tup rfl (pgs_cons (pg_name (i := 1) nd rfl (Or.inl rfl)) (pgs_cons (pg_name (i := 2) nd rfl (Or.inl rfl)) (pgs_cons (pg_name (i := 3) nd rfl (Or.inl rfl)) (pgs_cons (pg_name (i := 4) nd rfl (Or.inl rfl)) pgs_nil))))))))
      (pss_one (ps_ret (pe_tup (pa_cons (pv 1) (pa_cons (pv 2) (pa_cons (pv 3) (pa_cons (pv 4) pa_nil))))))))), enter h (by decide) ?_⟩
    rintro _ _ ⟨x, ts, b, hx, hb, hm⟩ _
    left
    show ExD K _ [.fr x, .un, .un, .un, .un, .un] _
    walk_at "clean"
    walk_at "as4"
    refine xs_for (fun i => [.fr x, .fr (.int (Gd.prod (ts.take i)).a), .fr (.int (Gd.prod (ts.take i)).b), .fr (.int (Gd.prod (ts.take i)).c), .fr (.int (Gd.prod (ts.take i)).d), .un]) (ei_seq (ev_var rfl) hx) ?_ ts.length (by rw [List.length_map]) ?_
    · intro i d hd
      obtain ⟨t, ht, rfl⟩ := dI_get hd
      have hP : BdT (1 + ts.length * (b + 1)) (Gd.prod (ts.take i)) := (BdT.prod fun t h => hb t (List.mem_of_mem_take h)).le (by
        have := Nat.mul_le_mul_right (b + 1) (show (ts.take i).length ≤ ts.length by simp; omega)
        omega)
      have hT : Bd b t := hb t (List.mem_of_getElem? ht)
      have e : Gd.prod (ts.take (i + 1)) = (Gd.prod (ts.take i)).step t := by
        rw [List.take_add_one, ht]; exact Gd.prod_snoc _ _
      refine ⟨_, as_name, ?_⟩
      rw [e]
      with_reducible apply x_toF (i := 5)
      · dsimp only [List.set]
        walk_at "as4"
      · rfl
    · rw [List.take_length]
      walk_at "ret"
  exact (B.raw hb .nil).imp fun vs H Q E h => by rw [List.append_nil]; exact h
inductive rTimes : List D → D → Prop
  | mk (x y : Gd.Tb) (k l : Nat) (hx : BdT k x) (hy : BdT l y) (e : k + l < 900000) : rTimes [tT x, tT y] (tT (x.mul y))
abbrev N__law_times : List Str := [("x" : Str), ("y" : Str), ("first" : Str)]
theorem sc__law_times : FnScope N__law_times [("x" : Str), ("y" : Str)] (defScope s__law_times) := ⟨rfl, rfl, rfl, by decide +kernel, rfl, by decide +kernel, by decide +kernel⟩
theorem ok__law_times {f : Addr} {fd : FuncData} (F : FunD K "_law_times" "_law_times" (defArgs s__law_times) (defBody s__law_times) (defScope s__law_times) [] [] f fd) (hb : Binds K fd [("x" : Str), ("y" : Str)] []) (T : Txt K mg) : FnR P w K mg base CX0 1 f (spD K 2 rTimes) := by
  have B : FnOk P w K mg base CX0 1 f fd [("x" : Str), ("y" : Str)] (spD K 2 rTimes) := by
    refine F.ok sc__law_times (fun vs H Q E h => h.1) (fun cdv A outer s H vs Q E hr h => ?_)
    have hu := hr.units
    have hu1 : _ + 1 < cLine := Nat.lt_of_le_of_lt (Nat.add_le_add_left (by decide : 1 ≤ 64) _) hr.units
    have nd := sc__law_times.nd
    refine ⟨_, PSs.nox (pss_cons (ps_set (i := 2) nd rfl (Or.inl rfl) (pe_tup (pa_cons (pe_op op_add (pe_op op_mulW (pe_ix (show IxR _ (rIx K) from ix_seq) (pv 0) pe_int (fun _ _ => rfl)) (pe_ix (show IxR _ (rIx K) from ix_seq) (pv 1) pe_int (fun _ _ => rfl))) (pe_op op_mulW (pe_ix (show IxR _ (rIx K) from ix_seq) (pv 0) pe_int (fun _ _ => rfl)) (pe_ix (show IxR _ (rIx K) from ix_seq) (pv 1) pe_int (fun _ _ => rfl)))) (pa_cons (pe_op op_add (pe_op op_mulW (pe_ix (show IxR _ (rIx K) from ix_seq) (pv 0) pe_int (fun _ _ => rfl)) (pe_ix (show IxR _ (rIx K) from ix_seq) (pv 1) pe_int (fun _ _ => rfl))) (pe_op op_mulW (pe_ix (show IxR _ (rIx K) from ix_seq) (pv 0) pe_int (fun _ _ => rfl)) (pe_ix (show IxR _ (rIx K) from ix_seq) (pv 1) pe_int (fun _ _ => rfl)))) pa_nil))))
      (pss_one (ps_ret (pe_op op_catA (pv 2) (pe_tup (pa_cons (pe_op op_add (pe_op op_mulW (pe_ix (show IxR _ (rIx K) from ix_seq) (pv 0) pe_int (fun _ _ => rfl)) (pe_ix (show IxR _ (rIx K) from ix_seq) (pv 1) pe_int (fun _ _ => rfl))) (pe_op op_mulW (pe_ix (show IxR _ (rIx K) from ix_seq) (pv 0) pe_int (fun _ _ => rfl)) (pe_ix (show IxR _ (rIx K) from ix_seq) (pv 1) pe_int (fun _ _ => rfl)))) (pa_cons (pe_op op_add (pe_op op_mulW (pe_ix (show IxR _ (rIx K) from ix_seq) (pv 0) pe_int (fun _ _ => rfl)) (pe_ix (show IxR _ (rIx K) from ix_seq) (pv 1) pe_int (fun _ _ => rfl))) (pe_op op_mulW (pe_ix (show IxR _ (rIx K) from ix_seq) (pv 0) pe_int (fun _ _ => rfl)) (pe_ix (show IxR _ (rIx K) from ix_seq) (pv 1) pe_int (fun _ _ => rfl)))) pa_nil))))))), enter h (by decide) ?_⟩
    rintro _ _ ⟨x, y, k, l, hx, hy, e⟩ _
    left
    show ExD K _ [.fr (tT x), .fr (tT y), .un] _
    walk_at "clean"
    walk_at "set"
    with_reducible apply x_ret
    with_reducible apply ev_is
    · with_reducible apply ev_catT
      · walk_at "ev"
      · walk_at "ev"
      · simp
    · rfl
  exact (B.raw hb .nil).imp fun vs H Q E h => by rw [List.append_nil]; exact h
inductive rBack : List D → D → Prop
  | mk (x : Gd.Tb) (k : Nat) (hx : BdT k x) (e : k < 400000) (hd : x.det = 1 ∨ x.det = -1) : rBack [tT x] (tT x.inv)
abbrev N__law_back : List Str := [("table" : Str), ("a" : Str), ("b" : Str), ("c" : Str), ("d" : Str)]
theorem sc__law_back : FnScope N__law_back [("table" : Str)] (defScope s__law_back) := ⟨rfl, rfl, rfl, by decide +kernel, rfl, by decide +kernel, by decide +kernel⟩
theorem ok__law_back {f : Addr} {fd : FuncData} (F : FunD K "_law_back" "_law_back" (defArgs s__law_back) (defBody s__law_back) (defScope s__law_back) [] [] f fd) (hb : Binds K fd [("table" : Str)] []) (T : Txt K mg) : FnR P w K mg base CX0 1 f (spD K 1 rBack) := by
  have B : FnOk P w K mg base CX0 1 f fd [("table" : Str)] (spD K 1 rBack) := by
    refine F.ok sc__law_back (fun vs H Q E h => h.1) (fun cdv A outer s H vs Q E hr h => ?_)
    have hu := hr.units
    have hu1 : _ + 1 < cLine := Nat.lt_of_le_of_lt (Nat.add_le_add_left (by decide : 1 ≤ 64) _) hr.units
    have nd := sc__law_back.nd
    refine ⟨_, PSs.nox (pss_cons (ps_asg (pv 0) (pg_tup rfl (pgs_cons (pg_name (i := 1) nd rfl (Or.inl rfl)) (pgs_cons (pg_name (i := 2) nd rfl (Or.inl rfl)) (pgs_cons (pg_name (i := 3) nd rfl (Or.inl rfl)) (pgs_cons (pg_name (i := 4) nd rfl (Or.inl rfl)) pgs_nil))))))
      (pss_cons (ps_if (pt_cmpR op_lt (pe_op op_sub (pe_op op_mulW (pv 1) (pv 4)) (pe_op op_mulW (pv 2) (pv 3))) pe_int (nomark _)) (pss_one (ps_ret (pe_tup (pa_cons (pe_un un_neg (pv 4)) (pa_cons (pv 2) (pa_cons (pv 3) (pa_cons (pe_un un_neg (pv 1)) pa_nil))))))) pss_nil)
      (pss_one (ps_ret (pe_tup (pa_cons (pv 4) (pa_cons (pe_un un_neg (pv 2)) (pa_cons (pe_un un_neg (pv 3)) (pa_cons (pv 1) pa_nil))))))))), enter h (by decide) ?_⟩
    rintro _ _ ⟨x, k, hx, e, hd⟩ _
    left
    show ExD K _ [.fr (tT x), .un, .un, .un, .un] _
    walk_at "clean"
    walk_at "as4"
    have hdet : x.a * x.d - x.b * x.c = x.det := rfl
    rcases hd with h | h
    · have e1 : x.inv = x.adj := by unfold Gd.Tb.inv; rw [if_pos h]
      rw [e1]
      with_reducible apply xs_skip
      · walk_at "ev"
      · rw [hdet, h]; rfl
      · with_reducible apply x_ret
        with_reducible apply ev_is
        · walk_at "ev"
        · rfl
    · have e1 : x.inv = x.adj.neg := by unfold Gd.Tb.inv; rw [if_neg (by omega)]
      rw [e1]
      with_reducible apply xs_take
      · walk_at "ev"
      · rw [hdet, h]; rfl
      · with_reducible apply x_ret
        with_reducible apply ev_is
        · walk_at "ev"
        · simp [Gd.Tb.adj, Gd.Tb.neg]
  exact (B.raw hb .nil).imp fun vs H Q E h => by rw [List.append_nil]; exact h
inductive rLKeeper : List D → D → Prop
  | mk (f r : List Int) (b : Nat) (hf : ∀ t ∈ f, Bd b t) (hr : ∀ t ∈ r, Bd b t) (fz : f.length ≤ 100) (rz : r.length ≤ 100) (hb : b ≤ 1000) : rLKeeper [.lst (dI f), .lst (dI r)] (tT (((Gd.prod f).mul (Gd.prod r)).mul (Gd.prod f).inv))
abbrev N__law_keeper : List Str := [("front" : Str), ("ring" : Str), ("head" : Str)]
theorem sc__law_keeper : FnScope N__law_keeper [("front" : Str), ("ring" : Str)] (defScope s__law_keeper) := ⟨rfl, rfl, rfl, by decide +kernel, rfl, by decide +kernel, by decide +kernel⟩
theorem ok__law_keeper {f : Addr} {fd : FuncData} (F : FunD K "_law_keeper" "_law_keeper" (defArgs s__law_keeper) (defBody s__law_keeper) (defScope s__law_keeper) [] [] f fd) (hb : Binds K fd [("front" : Str), ("ring" : Str)] []) (T : Txt K mg) (h__law_product : Fn P w K mg base "_law_product" 1 (spD K 1 rProduct)) (h__law_times : Fn P w K mg base "_law_times" 1 (spD K 2 rTimes)) (h__law_back : Fn P w K mg base "_law_back" 1 (spD K 1 rBack)) : FnR P w K mg base CX0 2 f (spD K 2 rLKeeper) := by
  have B : FnOk P w K mg base CX0 2 f fd [("front" : Str), ("ring" : Str)] (spD K 2 rLKeeper) := by
    refine F.ok sc__law_keeper (fun vs H Q E h => h.1) (fun cdv A outer s H vs Q E hr h => ?_)
    have hr1 : Room 1 _ := hr.mono (by decide)
    have hu := hr.units
    have hu1 : _ + 1 < cLine := Nat.lt_of_le_of_lt (Nat.add_le_add_left (by decide : 1 ≤ 64) _) hr.units
    have nd := sc__law_keeper.nd
    refine ⟨_, PSs.nox (pss_cons (ps_set (i := 2) nd rfl (Or.inl rfl) (pe_fn h__law_product hr1 rfl (pa_cons (pv 0) pa_nil)))
      (pss_one (ps_ret (pe_fn h__law_times hr1 rfl (pa_cons (pe_fn h__law_times hr1 rfl (pa_cons (pv 2) (pa_cons (pe_fn h__law_product hr1 rfl (pa_cons (pv 1) pa_nil)) pa_nil))) (pa_cons (pe_fn h__law_back hr1 rfl (pa_cons (pv 2) pa_nil)) pa_nil)))))), enter h (by decide) ?_⟩
    rintro _ _ ⟨f, r, b, hf, hr, fz, rz, hb⟩ _
    left
    show ExD K _ [.fr (.lst (dI f)), .fr (.lst (dI r)), .un] _
    walk_at "clean"
    have m1 : f.length * (b + 1) ≤ 100 * 1001 := Nat.mul_le_mul fz (by omega)
    have m2 : r.length * (b + 1) ≤ 100 * 1001 := Nat.mul_le_mul rz (by omega)
    have b1 := BdT.prod hf
    have b2 := BdT.prod hr
    have h1 : rProduct [.lst (dI f)] (tT (Gd.prod f)) := .mk _ f b rfl hf (by omega)
    have h2 : rProduct [.lst (dI r)] (tT (Gd.prod r)) := .mk _ r b rfl hr (by omega)
    have h3 : rTimes [tT (Gd.prod f), tT (Gd.prod r)] (tT ((Gd.prod f).mul (Gd.prod r))) := .mk _ _ _ _ b1 b2 (by omega)
    have h4 : rBack [tT (Gd.prod f)] (tT (Gd.prod f).inv) := .mk _ _ b1 (by omega) (Gd.det_prod_or f)
    have h5 : rTimes [tT ((Gd.prod f).mul (Gd.prod r)), tT (Gd.prod f).inv] (tT (((Gd.prod f).mul (Gd.prod r)).mul (Gd.prod f).inv)) := .mk _ _ _ _ (b1.mul b2) b1.inv (by omega)
    with_reducible apply xs_set
    · walk_at "ev"
      exact h1
    · dsimp only [List.set]
      with_reducible apply x_ret
      with_reducible apply ev_call'
      · with_reducible apply ea_cons
        · with_reducible apply ev_call'
          · with_reducible apply ea_cons
            · walk_at "ev"
            · with_reducible apply ea_cons
              · walk_at "ev"
                exact h2
              · exact ea_nil
          · rfl
          · exact h3
        · with_reducible apply ea_cons
          · walk_at "ev"
            exact h4
          · exact ea_nil
      · rfl
      · exact h5
  exact (B.raw hb .nil).imp fun vs H Q E h => by rw [List.append_nil]; exact h
inductive rNumbers (K : Frag) : List D → D → Prop
  | mk (x : Gd.Tb) : rNumbers K [dT K x] (tT x)
abbrev N__law_numbers : List Str := [("told" : Str), ("numbers" : Str), ("number" : Str)]
theorem sc__law_numbers : FnScope N__law_numbers [("told" : Str)] (defScope s__law_numbers) := ⟨rfl, rfl, rfl, by decide +kernel, rfl, by decide +kernel, by decide +kernel⟩
theorem ok__law_numbers {f : Addr} {fd : FuncData} (F : FunD K "_law_numbers" "_law_numbers" (defArgs s__law_numbers) (defBody s__law_numbers) (defScope s__law_numbers) [] [] f fd) (hb : Binds K fd [("told" : Str)] []) (T : Txt K mg) (h__law_whole : Fn P w K mg base "_law_whole" 1 (spD K 1 rWhole)) : FnR P w K mg base CX0 2 f (spD K 1 (rNumbers K)) := by
  have B : FnOk P w K mg base CX0 2 f fd [("told" : Str)] (spD K 1 (rNumbers K)) := by
    refine F.ok sc__law_numbers (fun vs H Q E h => h.1) (fun cdv A outer s H vs Q E hr h => ?_)
    have hr1 : Room 1 _ := hr.mono (by decide)
    have hu := hr.units
    have hu1 : _ + 1 < cLine := Nat.lt_of_le_of_lt (Nat.add_le_add_left (by decide : 1 ≤ 64) _) hr.units
    have nd := sc__law_numbers.nd
    refine ⟨_, PSs.nox (pss_cons (ps_if (pt_not (pt_val (pe_callB call_isi (by rfl) T.b_isinstance (by decide +kernel) (pa_cons (pv 0) (pa_cons (pe_glob (v := .ref (cTable K)) rfl (T.mgTable) rfl) pa_nil))))) (pss_one (ps_ret pe_non)) pss_nil)
      (pss_cons (ps_set (i := 1) nd rfl (Or.inl rfl) (pe_tup (pa_cons (pe_fld (pv 0) rfl) (pa_cons (pe_fld (pv 0) rfl) (pa_cons (pe_fld (pv 0) rfl) (pa_cons (pe_fld (pv 0) rfl) pa_nil))))))
      (pss_cons (ps_for PassesOwn.never rfl (pi_seq (pv 1)) (pg_name (i := 2) nd rfl (Or.inl rfl)) (pss_one (ps_if (pt_not (pt_val (pe_fn h__law_whole hr1 rfl (pa_cons (pv 2) pa_nil)))) (pss_one (ps_ret pe_non)) pss_nil)))
      (pss_one (ps_ret (pv 1)))))), enter h (by decide) ?_⟩
    rintro _ _ ⟨x⟩ _
    left
    show ExD K _ [.fr (dT K x), .un, .un] _
    walk_at "clean"
    with_reducible apply xs_skip (b := false)
    · exact et_is (et_not (et_B (ev_isi (x := dT K x) (b := true) (ev_var rfl) T.iTable (.own _) T.kTable))) rfl
    · rfl
    · with_reducible apply xs_set (d := tT x)
      · walk_at "ev"
      · dsimp only [List.set]
        refine xs_for (fun _ => [.fr (dT K x), .fr (tT x), .un]) (ei_seq (ev_var rfl) rfl) ?_ _ rfl ?_
        · intro i d hd
          have hi : ∃ z, d = .int z := by
            match i, hd with
            | 0, h => exact ⟨_, (Option.some.inj h).symm⟩
            | 1, h => exact ⟨_, (Option.some.inj h).symm⟩
            | 2, h => exact ⟨_, (Option.some.inj h).symm⟩
            | 3, h => exact ⟨_, (Option.some.inj h).symm⟩
          obtain ⟨z, rfl⟩ := hi
          refine ⟨_, as_name, ?_⟩
          with_reducible apply x_toF (i := 2)
          · dsimp only [List.set]
            with_reducible apply xl_if_f (b := false)
            · exact et_is (et_not (et_B (ev_call' (ds := [.int z]) (ea_cons (ev_var rfl) ea_nil) rfl (rWhole.mk z)))) rfl
            · rfl
            · exact x_next
          · rfl
        · walk_at "ret"
  exact (B.raw hb .nil).imp fun vs H Q E h => by rw [List.append_nil]; exact h
abbrev ptOf (ts : List Int) (i : Nat) : D := .tup [.int (Gd.prod (ts.take (i + 1))).c, .int (Gd.prod (ts.take (i + 1))).a]
inductive rPoints : List D → D → Prop
  | mk (x : D) (ts : List Int) (b : Nat) (hx : x.items = some (dI ts)) (hb : ∀ t ∈ ts, Bd b t) (hz : ts.length ≤ 1000) (hm : ts.length * (b + 1) + b ≤ 400000) : rPoints [x] (.lst ((List.range ts.length).map (ptOf ts)))
abbrev N__law_points : List Str := [("turns" : Str), ("points" : Str), ("p" : Str), ("q" : Str), ("p_before" : Str), ("q_before" : Str), ("turn" : Str)]
theorem sc__law_points : FnScope N__law_points [("turns" : Str)] (defScope s__law_points) := ⟨rfl, rfl, rfl, by decide +kernel, rfl, by decide +kernel, by decide +kernel⟩
theorem ok__law_points {f : Addr} {fd : FuncData} (F : FunD K "_law_points" "_law_points" (defArgs s__law_points) (defBody s__law_points) (defScope s__law_points) [] [] f fd) (hb : Binds K fd [("turns" : Str)] []) (T : Txt K mg) : FnR P w K mg base CX0 1 f (spD K 1 rPoints) := by
  have B : FnOk P w K mg base CX0 1 f fd [("turns" : Str)] (spD K 1 rPoints) := by
    refine F.ok sc__law_points (fun vs H Q E h => h.1) (fun cdv A outer s H vs Q E hr h => ?_)
    have hu := hr.units
    have hu1 : _ + 1 < cLine := Nat.lt_of_le_of_lt (Nat.add_le_add_left (by decide : 1 ≤ 64) _) hr.units
    have nd := sc__law_points.nd
    refine ⟨_, PSs.nox (pss_cons (ps_set (i := 1) nd rfl (Or.inl rfl) (pe_lst pa_nil))
      (pss_cons (ps_asg (pe_tup (pa_cons pe_int (pa_cons pe_int (pa_cons pe_int (pa_cons pe_int pa_nil))))) (pg_tup rfl (pgs_cons (pg_name (i := 2) nd rfl (Or.inl rfl)) (pgs_cons (pg_name (i := 3) nd rfl (Or.inl rfl)) (pgs_cons (pg_name (i := 4) nd rfl (Or.inl rfl)) (pgs_cons (pg_name (i := 5) nd rfl (Or.inl rfl)) pgs_nil))))))
      (pss_cons (ps_for PassesOwn.never rfl (pi_seq (pv 0)) (pg_name (i := 6) nd rfl (Or.inl rfl)) (pss_cons (ps_par (i := 2) (j := 4) rfl nd rfl rfl (by decide) rfl rfl (pa_cons (pe_op op_add (pe_op op_mulW (pv 6) (pv 2)) (pv 4)) (pa_cons (pv 2) pa_nil)) (by rfl))
        (pss_cons (ps_par (i := 3) (j := 5) rfl nd rfl rfl (by decide) rfl rfl (pa_cons (pe_op op_add (pe_op op_mulW (pv 6) (pv 3)) (pv 5)) (pa_cons (pv 3) pa_nil)) (by rfl))
        (pss_one (ps_expr (pe_bm PySem.F.plainAttrs_list PySem.F.slot_list_append PySem.F.type_list_append mt_append (pv 1) (pa_cons (pe_tup (pa_cons (pv 3) (pa_cons (pv 2) pa_nil))) pa_nil)))))))
      (pss_one (ps_ret (pv 1)))))), enter h (by decide) ?_⟩
    rintro _ _ ⟨x, ts, b, hx, hb, hz, hm⟩ _
    left
    show ExD K _ [.fr x, .un, .un, .un, .un, .un, .un] _
    walk_at "clean"
    with_reducible apply xs_setL
    · exact el_lst ea_nil (by decide)
    · dsimp only [List.set]
      walk_at "as4"
      refine xs_for (fun i => [.fr x, .ow none ((List.range i).map (ptOf ts)), .fr (.int (Gd.prod (ts.take i)).a), .fr (.int (Gd.prod (ts.take i)).c), .fr (.int (Gd.prod (ts.take i)).b), .fr (.int (Gd.prod (ts.take i)).d), .un]) (ei_seq (ev_var rfl) hx) ?_ ts.length (by rw [List.length_map]) ?_
      · intro i d hd
        obtain ⟨t, ht, rfl⟩ := dI_get hd
        have hil : i < ts.length := (List.getElem?_eq_some_iff.mp ht).1
        have hP : BdT (1 + ts.length * (b + 1)) (Gd.prod (ts.take i)) := (BdT.prod fun t h => hb t (List.mem_of_mem_take h)).le (by
          have := Nat.mul_le_mul_right (b + 1) (show (ts.take i).length ≤ ts.length by simp; omega)
          omega)
        have hT : Bd b t := hb t (List.mem_of_getElem? ht)
        have e : Gd.prod (ts.take (i + 1)) = (Gd.prod (ts.take i)).step t := by
          rw [List.take_add_one, ht]; exact Gd.prod_snoc _ _
        have e2 : (List.range (i + 1)).map (ptOf ts) = (List.range i).map (ptOf ts) ++ [ptOf ts i] := by rw [List.range_succ, List.map_append]; rfl
        refine ⟨_, as_name, ?_⟩
        with_reducible apply x_toF (i := 6)
        · dsimp only [List.set]
          with_reducible apply xs_par (a := .int (Gd.prod (ts.take (i + 1))).a) (b := .int (Gd.prod (ts.take (i + 1))).b)
          · with_reducible apply ea_is
            · walk_at "ev"
            · rw [e]; simp only [Gd.Tb.step]; rw [Int.mul_comm]
          · dsimp only [List.set]
            with_reducible apply xs_par (a := .int (Gd.prod (ts.take (i + 1))).c) (b := .int (Gd.prod (ts.take (i + 1))).d)
            · with_reducible apply ea_is
              · walk_at "ev"
              · rw [e]; simp only [Gd.Tb.step]; rw [Int.mul_comm]
            · dsimp only [List.set]
              with_reducible apply x_app (ds0 := (List.range i).map (ptOf ts)) (ds := (List.range i).map (ptOf ts)) (d := ptOf ts i)
              · rfl
              · walk_at "ev"
              · rfl
              · simp; omega
        · rw [e2]; rfl
      · refine x_freeze (i := 1) rfl ?_
        dsimp only [List.set]
        walk_at "ret"
  exact (B.raw hb .nil).imp fun vs H Q E h => by rw [List.append_nil]; exact h
inductive rMovedP : List D → D → Prop
  | mk (x : Gd.Tb) (p q : Int) (k l : Nat) (hx : BdT k x) (hp : Bd l p) (hq : Bd l q) (e : k + l < 900000) : rMovedP [tT x, .tup [.int q, .int p]] (.tup [.int (x.c * p + x.d * q), .int (x.a * p + x.b * q)])
abbrev N__law_moved : List Str := [("table" : Str), ("point" : Str), ("a" : Str), ("b" : Str), ("c" : Str), ("d" : Str), ("q" : Str), ("p" : Str)]
theorem sc__law_moved : FnScope N__law_moved [("table" : Str), ("point" : Str)] (defScope s__law_moved) := ⟨rfl, rfl, rfl, by decide +kernel, rfl, by decide +kernel, by decide +kernel⟩
theorem ok__law_moved {f : Addr} {fd : FuncData} (F : FunD K "_law_moved" "_law_moved" (defArgs s__law_moved) (defBody s__law_moved) (defScope s__law_moved) [] [] f fd) (hb : Binds K fd [("table" : Str), ("point" : Str)] []) (T : Txt K mg) : FnR P w K mg base CX0 1 f (spD K 2 rMovedP) := by
  have B : FnOk P w K mg base CX0 1 f fd [("table" : Str), ("point" : Str)] (spD K 2 rMovedP) := by
    refine F.ok sc__law_moved (fun vs H Q E h => h.1) (fun cdv A outer s H vs Q E hr h => ?_)
    have hu := hr.units
    have hu1 : _ + 1 < cLine := Nat.lt_of_le_of_lt (Nat.add_le_add_left (by decide : 1 ≤ 64) _) hr.units
    have nd := sc__law_moved.nd
    refine ⟨_, PSs.nox (pss_cons (ps_asg (pv 0) (pg_tup rfl (pgs_cons (pg_name (i := 2) nd rfl (Or.inl rfl)) (pgs_cons (pg_name (i := 3) nd rfl (Or.inl rfl)) (pgs_cons (pg_name (i := 4) nd rfl (Or.inl rfl)) (pgs_cons (pg_name (i := 5) nd rfl (Or.inl rfl)) pgs_nil))))))
      (pss_cons (ps_asg (pv 1) (pg_tup rfl (pgs_cons (pg_name (i := 6) nd rfl (Or.inl rfl)) (pgs_cons (pg_name (i := 7) nd rfl (Or.inl rfl)) pgs_nil))))
      (pss_one (ps_ret (pe_tup (pa_cons (pe_op op_add (pe_op op_mulW (pv 4) (pv 7)) (pe_op op_mulW (pv 5) (pv 6))) (pa_cons (pe_op op_add (pe_op op_mulW (pv 2) (pv 7)) (pe_op op_mulW (pv 3) (pv 6))) pa_nil))))))), enter h (by decide) ?_⟩
    rintro _ _ ⟨x, p, q, k, l, hx, hp, hq, e⟩ _
    left
    show ExD K _ [.fr (tT x), .fr (.tup [.int q, .int p]), .un, .un, .un, .un, .un, .un] _
    walk_at "clean"
    walk_at "as4"
    walk_at "as2"
    walk_at "ret"
  exact (B.raw hb .nil).imp fun vs H Q E h => by rw [List.append_nil]; exact h
end
end Gw


set_option Elab.async false
set_option linter.all false
set_option maxRecDepth 100000
set_option maxHeartbeats 4000000
namespace Gw
open PySem PySem.Spec PyProof.Rows L2 DL
local macro_rules | `(tactic| walk_at "bd") => `(tactic| first
  | assumption
  | exact Bd.i0 | exact Bd.i1 | exact Bd.i2 | exact Bd.i4 | exact Bd.m2 | exact Bd.m1
  | ((with_reducible apply BdT.a) <;> assumption) | ((with_reducible apply BdT.b) <;> assumption) | ((with_reducible apply BdT.c) <;> assumption) | ((with_reducible apply BdT.d) <;> assumption)
  | ((with_reducible apply Bd.mul) <;> walk_at "bd")
  | ((with_reducible apply Bd.add) <;> walk_at "bd")
  | ((with_reducible apply Bd.sub) <;> walk_at "bd")
  | ((with_reducible apply Bd.neg) <;> walk_at "bd"))
local macro_rules | `(tactic| walk_at "ev") => `(tactic| first
  | ((with_reducible show ExD _ _ _ _); try dsimp only [List.set])
  | with_reducible exact ev_int | with_reducible exact ev_non | with_reducible exact ev_bl | with_reducible exact ev_str
  | ((with_reducible apply ev_var); exact rfl)
  | with_reducible exact ea_nil
  | ((with_reducible apply ea_cons) <;> walk_at "ev")
  | ((with_reducible apply ev_add) <;> walk_at "ev")
  | ((with_reducible apply ev_sub) <;> walk_at "ev")
  | ((with_reducible apply ev_mul) <;> walk_at "ev")
  | ((with_reducible apply ev_fdiv) <;> walk_at "ev")
  | ((with_reducible apply ev_mod) <;> walk_at "ev")
  | ((with_reducible apply ev_lt) <;> walk_at "ev")
  | ((with_reducible apply ev_le) <;> walk_at "ev")
  | ((with_reducible apply ev_gt) <;> walk_at "ev")
  | ((with_reducible apply ev_ge) <;> walk_at "ev")
  | ((with_reducible apply ev_eqS (tb := tC (V.str _)) (hb := ev_str)) <;> walk_at "ev")
  | ((with_reducible apply ev_neS (tb := tC (V.str _)) (hb := ev_str)) <;> walk_at "ev")
  | ((with_reducible apply ev_eqI) <;> walk_at "ev")
  | ((with_reducible apply ev_neI) <;> walk_at "ev")
  | ((with_reducible apply ev_neg) <;> walk_at "ev")
  | ((with_reducible apply ev_gcd) <;> walk_at "ev")
  | ((with_reducible apply ev_fld) <;> walk_at "ev")
  | ((with_reducible apply et_test) <;> walk_at "ev")
  | ((with_reducible apply et_B) <;> walk_at "ev")
  | ((with_reducible apply et_not) <;> walk_at "ev")
  | ((with_reducible apply ev_tup) <;> walk_at "ev")
  | ((with_reducible apply ev_make') <;> walk_at "ev")
  | ((with_reducible apply ev_call') <;> walk_at "ev")
  | ((with_reducible apply ev_meth') <;> walk_at "ev")
  | ((with_reducible show List.length _ = _); exact rfl)
  | ((with_reducible show List.length _ + 1 = _); exact rfl)
  | ((with_reducible show List.lookup _ _ = _); exact rfl)
  | ((with_reducible apply et_or') <;> walk_at "ev")
  | ((with_reducible apply et_and') <;> walk_at "ev")
  | ((with_reducible apply ev_own2) <;> walk_at "ev")
  | ((with_reducible apply ev_own1) <;> walk_at "ev")
  | ((with_reducible apply ev_st) <;> walk_at "ev")
  | ((with_reducible apply ev_abs) <;> walk_at "ev")
  | ((with_reducible apply ev_max2) <;> walk_at "ev")
  | ((with_reducible apply ev_divmod) <;> walk_at "ev")
  | ((with_reducible apply ev_intI) <;> walk_at "ev")
  | ((with_reducible apply ev_isN) <;> walk_at "ev")
  | ((with_reducible apply ev_notN) <;> walk_at "ev")
  | ((with_reducible apply ev_eqS) <;> walk_at "ev")
  | ((with_reducible apply ev_neS) <;> walk_at "ev")
  | ((with_reducible apply ev_lenO); exact rfl)
  | ((with_reducible apply ev_len) <;> walk_at "ev")
  | ((with_reducible show D.items _ = _); first | assumption | exact rfl)
  | ((with_reducible show rTableI _ _ _); exact ⟨rfl, rfl⟩)
  | ((with_reducible show _ = false); first | rfl | (simp; done) | (simp; omega))
  | ((with_reducible show _ = true); first | rfl | (simp; done) | (simp; omega))
  | ((with_reducible show 2 = _); exact rfl)
  | ((with_reducible show 1 = _); exact rfl)
  | exact Txt.clTable ‹_› | exact Txt.clFrac ‹_› | exact Txt.clRow ‹_› | exact Txt.clRoot ‹_›
  | exact Txt.nTable_a ‹_› | exact Txt.nTable_b ‹_› | exact Txt.nTable_c ‹_› | exact Txt.nTable_d ‹_› | exact Txt.nFrac_top ‹_› | exact Txt.nFrac_bottom ‹_›
  | exact Txt.nRow_head ‹_› | exact Txt.nRow_loop ‹_› | exact Txt.nRow_kind ‹_› | exact Txt.nRoot_a ‹_› | exact Txt.nRoot_b ‹_› | exact Txt.nRoot_c ‹_› | exact Txt.nRoot_disc ‹_›
  | ((with_reducible apply Bd.cm) <;> first | walk_at "bd" | omega)
  | ((with_reducible show _ ≤ _); simp only [List.length_cons, List.length_nil]; omega)
  | ((with_reducible intro _); walk_at "ev")
  | skip)
local macro_rules | `(tactic| walk_at "set") => `(tactic| ((with_reducible apply xs_set) <;> walk_at "ev"))
local macro_rules | `(tactic| walk_at "ret") => `(tactic| ((with_reducible apply x_ret) <;> walk_at "ev"))
local macro_rules | `(tactic| walk_at "as4") => `(tactic| ((with_reducible (first | apply xs_as4 | apply xl_as4)) <;> walk_at "ev"))
local macro_rules | `(tactic| walk_at "as3") => `(tactic| ((with_reducible (first | apply xs_as3 | apply xl_as3)) <;> walk_at "ev"))
local macro_rules | `(tactic| walk_at "as2") => `(tactic| ((with_reducible (first | apply xs_as2 | apply xl_as2)) <;> walk_at "ev"))
local macro_rules | `(tactic| walk_at "par") => `(tactic| ((with_reducible (first | apply xs_par | apply x_par)) <;> walk_at "ev"))
local macro_rules | `(tactic| walk_at "fld") => `(tactic| ((with_reducible (first | apply xs_fld | apply x_fld)) <;> first | exact rfl | decide | walk_at "ev"))
local macro_rules | `(tactic| walk_at "guard") => `(tactic| ((with_reducible apply xs_guard) <;> walk_at "ev"))
local macro_rules | `(tactic| walk_at "skip") => `(tactic| ((with_reducible apply xs_skip) <;> walk_at "ev"))
local macro_rules | `(tactic| walk_at "take") => `(tactic| ((with_reducible apply xs_take) <;> walk_at "ev"))
local macro_rules | `(tactic| walk_at "clean") => `(tactic| try simp only [cxK, cxK', asnL, List.length_cons, List.length_nil, Nat.zero_add, Nat.reduceAdd])
local macro_rules | `(tactic| walk_at "ev") => `(tactic| first
  | ((with_reducible apply ev_ix) <;> walk_at "ev")
  | ((with_reducible show atI _ _ = _); exact rfl))
section
variable {P : Program} {w : World} {K : Frag} {mg : Str → Option Value} {base : Heap}
abbrev pD (a b : Int) : D := .tup [.int a, .int b]
def Pts (A : List D) : Prop := ∀ d ∈ A, ∃ a b : Int, d = pD a b
theorem Pts.tail {d : D} {A : List D} (h : Pts (d :: A)) : Pts A := fun x hx => h x (List.mem_cons_of_mem _ hx)
theorem pts_noIns : ∀ {A : List D}, Pts A → D.noInsL A = true
  | [], _ => rfl
  | d :: A, h => by
    obtain ⟨a, b, rfl⟩ := h d List.mem_cons_self
    show (D.noIns (pD a b) && D.noInsL A) = true
    rw [pts_noIns h.tail]; rfl
theorem pts_lay : ∀ {A : List D}, Pts A → PyData.canLayAll0 (D.pyL A) = true
  | [], _ => by simp [D.pyL, PyData.canLayAll0]
  | d :: A, h => by
    obtain ⟨a, b, rfl⟩ := h d List.mem_cons_self
    show PyData.canLayAll0 ((pD a b).py :: D.pyL A) = true
    rw [PyData.canLayAll0, pts_lay h.tail]
    simp [D.py, D.pyL, PyData.canLay0, PyData.canLayAll0]
theorem pts_dep : ∀ {A : List D}, Pts A → PyData.depthAll (D.pyL A) ≤ 1
  | [], _ => by simp [D.pyL, PyData.depthAll]
  | d :: A, h => by
    obtain ⟨a, b, rfl⟩ := h d List.mem_cons_self
    have ih := pts_dep h.tail
    show PyData.depthAll ((pD a b).py :: D.pyL A) ≤ 1
    rw [PyData.depthAll]
    have : PyData.depth (pD a b).py = 1 := by simp [D.py, D.pyL, PyData.depth, PyData.depthAll]
    omega
theorem pts_shaped {A : List D} (h : Pts A) : SeqAt.shaped (D.lst A).py = true := by
  unfold SeqAt.shaped
  have := pts_dep h
  simp only [D.py, PyData.canLay0, PyData.depth, pts_lay h, Bool.true_and, decide_eq_true_eq]
  omega
theorem pD_shaped (a b : Int) : SeqAt.shaped (pD a b).py = true := shaped_tup [a, b]
inductive rAre : List D → D → Prop
  | mk (A : List D) (h : Pts A) (hz : A.length ≤ 10000) : rAre [.lst A, .lst A] (.bl true)
abbrev N__law_are_points : List Str := [("told" : Str), ("points" : Str), ("point" : Str)]
theorem sc__law_are_points : FnScope N__law_are_points [("told" : Str), ("points" : Str)] (defScope s__law_are_points) := ⟨rfl, rfl, rfl, by decide +kernel, rfl, by decide +kernel, by decide +kernel⟩
theorem ok__law_are_points {f : Addr} {fd : FuncData} (F : FunD K "_law_are_points" "_law_are_points" (defArgs s__law_are_points) (defBody s__law_are_points) (defScope s__law_are_points) [] [] f fd) (hb : Binds K fd [("told" : Str), ("points" : Str)] []) (T : Txt K mg) (h__law_whole : Fn P w K mg base "_law_whole" 1 (spD K 1 rWhole)) : FnR P w K mg base CX0 2 f (spD K 2 rAre) := by
  have B : FnOk P w K mg base CX0 2 f fd [("told" : Str), ("points" : Str)] (spD K 2 rAre) := by
    refine F.ok sc__law_are_points (fun vs H Q E h => h.1) (fun cdv A outer s H vs Q E hr h => ?_)
    have hr1 : Room 1 _ := hr.mono (by decide)
    have hu := hr.units
    have hu1 : _ + 1 < cLine := Nat.lt_of_le_of_lt (Nat.add_le_add_left (by decide : 1 ≤ 64) _) hr.units
    have nd := sc__law_are_points.nd
    refine ⟨_, PSs.nox (pss_cons (ps_if (PW.pt (pw_or (pt_not (pt_val (pe_callB call_isi (by rfl) T.b_isinstance (by decide +kernel) (pa_cons (pv 0) (pa_cons (pe_bltn (v := .ty "list") (by rfl) T.b_list (by decide +kernel) rfl) pa_nil))))) (pw_or1 (pt_cmpR op_ne (pe_callB call_lenA (by rfl) T.b_len (by decide +kernel) (pa_cons (pv 0) pa_nil)) (pe_callB call_lenA (by rfl) T.b_len (by decide +kernel) (pa_cons (pv 1) pa_nil)) (nomark _))))) (pss_one (ps_ret pe_bl)) pss_nil)
      (pss_cons (ps_for PassesOwn.never rfl (pi_seq (pv 0)) (pg_name (i := 2) nd rfl (Or.inl rfl)) (pss_cons (ps_if (PW.pt (pw_or (pt_not (pt_val (pe_callB call_isi (by rfl) T.b_isinstance (by decide +kernel) (pa_cons (pv 2) (pa_cons (pe_bltn (v := .ty "tuple") (by rfl) T.b_tuple (by decide +kernel) rfl) pa_nil))))) (pw_or1 (pt_cmpR op_ne (pe_callB call_lenA (by rfl) T.b_len (by decide +kernel) (pa_cons (pv 2) pa_nil)) pe_int (nomark _))))) (pss_one (ps_ret pe_bl)) pss_nil)
        (pss_one (ps_if (PW.pt (pw_or (pt_not (pt_val (pe_fn h__law_whole hr1 rfl (pa_cons (pe_ix (show IxR _ (rIx K) from ix_seq) (pv 2) pe_int (fun _ _ => rfl)) pa_nil)))) (pw_or1 (pt_not (pt_val (pe_fn h__law_whole hr1 rfl (pa_cons (pe_ix (show IxR _ (rIx K) from ix_seq) (pv 2) pe_int (fun _ _ => rfl)) pa_nil))))))) (pss_one (ps_ret pe_bl)) pss_nil))))
      (pss_one (ps_ret (pe_cmpR (op_eqD hu) (pv 0) (pv 1) (nomark _)))))), enter h (by decide) ?_⟩
    rintro _ _ ⟨A, h, hz⟩ _
    left
    show ExD K _ [.fr (.lst A), .fr (.lst A), .un] _
    walk_at "clean"
    with_reducible apply xs_skip (b := false)
    · refine et_is (et_or' (a := false) (b := false) (et_is (et_not (et_B (ev_isi (x := .lst A) (b := true) (ev_var rfl) trivial (.ty "list") (by rfl)))) rfl) fun _ => et_is (b := !decide ((A.length : Int) = A.length)) ?_ ?_) rfl
      · walk_at "ev"
      · simp
    · rfl
    · refine xs_for (fun _ => [.fr (.lst A), .fr (.lst A), .un]) (ei_seq (ev_var rfl) rfl) ?_ _ rfl ?_
      · intro i d hd
        obtain ⟨a, b, rfl⟩ := h d (List.mem_of_getElem? hd)
        refine ⟨_, as_name, ?_⟩
        with_reducible apply x_toF (i := 2)
        · dsimp only [List.set]
          with_reducible apply xs_skip (b := false)
          · refine et_is (et_or' (a := false) (b := false) (et_is (et_not (et_B (ev_isi (x := pD a b) (b := true) (ev_var rfl) trivial (.ty "tuple") (by rfl)))) rfl) fun _ => et_is (b := !decide ((([D.int a, D.int b] : List D).length : Int) = 2)) ?_ ?_) rfl
            · walk_at "ev"
            · rfl
          · rfl
          · with_reducible apply xl_if_f (b := false)
            · refine et_is (et_or' (a := false) (b := false) (et_is (et_not (et_B (ev_call' (ds := [.int a]) ?_ rfl (rWhole.mk a)))) rfl) fun _ => et_is (et_not (et_B (ev_call' (ds := [.int b]) ?_ rfl (rWhole.mk b)))) rfl) rfl
              · walk_at "ev"
              · walk_at "ev"
            · rfl
            · exact x_next
        · rfl
      · with_reducible apply x_ret
        with_reducible apply ev_is
        · with_reducible apply ev_eqD
          · walk_at "ev"
          · walk_at "ev"
          · exact pts_noIns h
          · exact pts_noIns h
          · exact pts_shaped h
          · exact pts_shaped h
        · rw [eqv_refl.1 (.lst A) (pts_noIns h)]
  exact (B.raw hb .nil).imp fun vs H Q E h => by rw [List.append_nil]; exact h
abbrev sailsD (f r : List Int) (m : Nat) : D := .lst [.lst (sailD f r 1 m), .lst (sailD f r 0 (m + 1))]
inductive rCorner : List D → D → Prop
  | mk (f r : List Int) (m n : Nat) (h : n < 2 * m) (hz : m ≤ 1000) : rCorner [sailsD f r m, .int n] (dPt f r (n + 1))
abbrev N__law_corner : List Str := [("sails" : Str), ("n" : Str)]
theorem sc__law_corner : FnScope N__law_corner [("sails" : Str), ("n" : Str)] (defScope s__law_corner) := ⟨rfl, rfl, rfl, by decide +kernel, rfl, by decide +kernel, by decide +kernel⟩
theorem ok__law_corner {f : Addr} {fd : FuncData} (F : FunD K "_law_corner" "_law_corner" (defArgs s__law_corner) (defBody s__law_corner) (defScope s__law_corner) [] [] f fd) (hb : Binds K fd [("sails" : Str), ("n" : Str)] []) (T : Txt K mg) : FnR P w K mg base CX0 1 f (spD K 2 rCorner) := by
  have B : FnOk P w K mg base CX0 1 f fd [("sails" : Str), ("n" : Str)] (spD K 2 rCorner) := by
    refine F.ok sc__law_corner (fun vs H Q E h => h.1) (fun cdv A outer s H vs Q E hr h => ?_)
    have hu := hr.units
    have hu1 : _ + 1 < cLine := Nat.lt_of_le_of_lt (Nat.add_le_add_left (by decide : 1 ≤ 64) _) hr.units
    have nd := sc__law_corner.nd
    refine ⟨_, PSs.nox (pss_one (ps_ret (pe_ix (show IxR _ (rIx K) from ix_seq) (pe_ix (show IxR _ (rIx K) from ix_seq) (pv 0) (pe_op op_mod (pv 1) pe_int) (fun _ _ => rfl)) (pe_op op_fdivW (pe_op op_add (pv 1) pe_int) pe_int) (fun _ _ => rfl)))), enter h (by decide) ?_⟩
    rintro _ _ ⟨f, r, m, n, h, hz⟩ _
    left
    show ExD K _ [.fr (sailsD f r m), .fr (.int n)] _
    walk_at "clean"
    have sg : ∀ k c i : Nat, i < c → atI (sailD f r k c) (i : Int) = some (dPt f r (k + 2 * i)) := fun k c i hi => by
      apply atI_nat
      unfold sailD
      rw [List.getElem?_map, List.getElem?_range hi]; rfl
    have b2 : CDivW ((n : Int) + 1) 2 := Bd.cd Bd.i2 (by omega) (by omega)
    with_reducible apply x_ret
    rcases Nat.mod_two_eq_zero_or_one n with h2 | h2
    · with_reducible apply ev_ix (ds := sailD f r 1 m)
      · with_reducible apply ev_ix (i := 0)
        · exact ev_var rfl
        · with_reducible apply ev_is
          · exact ev_mod (ev_var rfl) ev_int (by decide)
          · congr 1; omega
        · rfl
        · rfl
      · exact ev_fdiv (ev_add (ev_var rfl) ev_int) ev_int b2
      · rfl
      · have e : ((n : Int) + 1) / 2 = ((n / 2 : Nat) : Int) := by omega
        rw [e, sg 1 m _ (by omega), show 1 + 2 * (n / 2) = n + 1 by omega]
    · with_reducible apply ev_ix (ds := sailD f r 0 (m + 1))
      · with_reducible apply ev_ix (i := 1)
        · exact ev_var rfl
        · with_reducible apply ev_is
          · exact ev_mod (ev_var rfl) ev_int (by decide)
          · congr 1; omega
        · rfl
        · rfl
      · exact ev_fdiv (ev_add (ev_var rfl) ev_int) ev_int b2
      · rfl
      · have e : ((n : Int) + 1) / 2 = (((n + 1) / 2 : Nat) : Int) := by omega
        rw [e, sg 0 (m + 1) _ (by omega), show 0 + 2 * ((n + 1) / 2) = n + 1 by omega]
  exact (B.raw hb .nil).imp fun vs H Q E h => by rw [List.append_nil]; exact h
/-- the keeper carries the tables one ring on -/
structure Carry (f r : List Int) (x : Gd.Tb) (st sz : Nat) : Prop where
  on : ∀ m, st + 1 ≤ m → x.mul (Pt f r m) = Pt f r (m + sz)
  dt : x.det = 1 ∨ x.det = -1
theorem Carry.back {f r : List Int} {x : Gd.Tb} {st sz : Nat} (h : Carry f r x st sz) {m : Nat} (hm : st + 1 ≤ m) : x.inv.mul (Pt f r (m + sz)) = Pt f r m := by
  rw [← h.on m hm, ← Gd.Tb.mul_assoc, Gd.Tb.inv_mul h.dt, Gd.Tb.one_mul]
theorem Carry.two {f r : List Int} {x : Gd.Tb} {st sz : Nat} (h : Carry f r x st sz) {m : Nat} (hm : st + 1 ≤ m) : (x.mul x).mul (Pt f r m) = Pt f r (m + 2 * sz) := by
  rw [Gd.Tb.mul_assoc, h.on m hm, h.on (m + sz) (by omega)]
  congr 1; omega
theorem dPt_py (f r : List Int) (n : Nat) : D.noIns (dPt f r n) = true ∧ SeqAt.shaped (dPt f r n).py = true := ⟨rfl, pD_shaped _ _⟩
inductive rCarries (K : Frag) : List D → D → Prop
  | mk (f r : List Int) (x : Gd.Tb) (b k st sz m : Nat) (h : Carry f r x st sz) (hO : RowOk f r b) (hx : BdT k x) (hk : k ≤ 50000) (hb : b ≤ 1000) (hs : st ≤ 100) (hz : sz ≤ 100) (hm : st + 10 + 2 * sz ≤ 2 * m) (hm2 : m ≤ 400) : rCarries K [dT K x, sailsD f r m, .int st, .int sz] (.bl true)
abbrev N__law_carries : List Str := [("kept" : Str), ("sails" : Str), ("start" : Str), ("size" : Str), ("once" : Str), ("twice" : Str), ("back" : Str), ("n" : Str), ("here" : Str), ("there" : Str)]
theorem sc__law_carries : FnScope N__law_carries [("kept" : Str), ("sails" : Str), ("start" : Str), ("size" : Str)] (defScope s__law_carries) := ⟨rfl, rfl, rfl, by decide +kernel, rfl, by decide +kernel, by decide +kernel⟩
theorem ok__law_carries {f : Addr} {fd : FuncData} (F : FunD K "_law_carries" "_law_carries" (defArgs s__law_carries) (defBody s__law_carries) (defScope s__law_carries) [] [] f fd) (hb : Binds K fd [("kept" : Str), ("sails" : Str), ("start" : Str), ("size" : Str)] []) (T : Txt K mg) (h__law_numbers : Fn P w K mg base "_law_numbers" 2 (spD K 1 (rNumbers K))) (h_Table_raised : Me P w K mg base (cTable K) "raised" 5 (spD K 2 (rTRaised K))) (h_Table_inverse : Me P w K mg base (cTable K) "inverse" 4 (spD K 1 (rTInv K))) (h__law_corner : Fn P w K mg base "_law_corner" 1 (spD K 2 rCorner)) (h__law_moved : Fn P w K mg base "_law_moved" 1 (spD K 2 rMovedP)) : FnR P w K mg base CX0 6 f (spD K 4 (rCarries K)) := by
  have B : FnOk P w K mg base CX0 6 f fd [("kept" : Str), ("sails" : Str), ("start" : Str), ("size" : Str)] (spD K 4 (rCarries K)) := by
    refine F.ok sc__law_carries (fun vs H Q E h => h.1) (fun cdv A outer s H vs Q E hr h => ?_)
    have hr1 : Room 1 _ := hr.mono (by decide)
    have hr2 : Room 2 _ := hr.mono (by decide)
    have hr4 : Room 4 _ := hr.mono (by decide)
    have hr5 : Room 5 _ := hr.mono (by decide)
    have hu := hr.units
    have hu1 : _ + 1 < cLine := Nat.lt_of_le_of_lt (Nat.add_le_add_left (by decide : 1 ≤ 64) _) hr.units
    have nd := sc__law_carries.nd
    refine ⟨_, PSs.nox (pss_cons (ps_set (i := 4) nd rfl (Or.inl rfl) (pe_fn h__law_numbers hr2 rfl (pa_cons (pv 0) pa_nil)))
      (pss_cons (ps_set (i := 5) nd rfl (Or.inl rfl) (pe_fn h__law_numbers hr2 rfl (pa_cons (pe_me h_Table_raised hr5 T.clTable (pv 0) (pa_cons pe_int pa_nil)) pa_nil)))
      (pss_cons (ps_set (i := 6) nd rfl (Or.inl rfl) (pe_fn h__law_numbers hr2 rfl (pa_cons (pe_me0 h_Table_inverse hr4 T.clTable (pv 0)) pa_nil)))
      (pss_cons (ps_if (PW.pt (pw_or (pt_cmpR op_isN (pv 4) pe_non (nomark _)) (pw_or (pt_cmpR op_isN (pv 5) pe_non (nomark _)) (pw_or1 (pt_cmpR op_isN (pv 6) pe_non (nomark _)))))) (pss_one (ps_ret pe_bl)) pss_nil)
      (pss_cons (ps_for PassesOwn.never rfl (pi_range2 rfl T.b_range (pa_cons (pv 2) (pa_cons (pe_op op_add (pv 2) pe_int) pa_nil))) (pg_name (i := 7) nd rfl (Or.inl rfl)) (pss_cons (ps_set (i := 8) nd rfl (Or.inl rfl) (pe_fn h__law_corner hr1 rfl (pa_cons (pv 1) (pa_cons (pv 7) pa_nil))))
        (pss_cons (ps_set (i := 9) nd rfl (Or.inl rfl) (pe_fn h__law_corner hr1 rfl (pa_cons (pv 1) (pa_cons (pe_op op_add (pv 7) (pv 3)) pa_nil))))
        (pss_cons (ps_if (PW.pt (pw_or (pt_cmpR (op_neD hu) (pe_fn h__law_moved hr1 rfl (pa_cons (pv 4) (pa_cons (pv 8) pa_nil))) (pv 9) (nomark _)) (pw_or1 (pt_cmpR (op_neD hu) (pe_fn h__law_moved hr1 rfl (pa_cons (pv 6) (pa_cons (pv 9) pa_nil))) (pv 8) (nomark _))))) (pss_one (ps_ret pe_bl)) pss_nil)
        (pss_one (ps_if (pt_cmpR (op_neD hu) (pe_fn h__law_moved hr1 rfl (pa_cons (pv 5) (pa_cons (pv 8) pa_nil))) (pe_fn h__law_corner hr1 rfl (pa_cons (pv 1) (pa_cons (pe_op op_add (pv 7) (pe_op op_mulW pe_int (pv 3))) pa_nil))) (nomark _)) (pss_one (ps_ret pe_bl)) pss_nil))))))
      (pss_one (ps_ret pe_bl))))))), enter h (by decide) ?_⟩
    rintro _ _ ⟨f, r, x, b, k, st, sz, m, hC, hO, hx, hk, hb, hs, hz, hm, hm2⟩ _
    left
    show ExD K _ [.fr (dT K x), .fr (sailsD f r m), .fr (.int st), .fr (.int sz), .un, .un, .un, .un, .un, .un] _
    walk_at "clean"
    have hR : rTRaised K [dT K x, .int 2] (dT K (x.mul x)) := .mk x k hx (by omega)
    have hI : rTInv K [dT K x] (dT K x.inv) := .mk x k hx (by omega) hC.dt
    with_reducible apply xs_set
    · walk_at "ev"
      exact rNumbers.mk x
    · dsimp only [List.set]
      with_reducible apply xs_set
      · with_reducible apply ev_call'
        · with_reducible apply ea_cons
          · walk_at "ev"
            exact hR
          · exact ea_nil
        · rfl
        · exact rNumbers.mk (x.mul x)
      · dsimp only [List.set]
        with_reducible apply xs_set
        · with_reducible apply ev_call'
          · with_reducible apply ea_cons
            · walk_at "ev"
              exact hI
            · exact ea_nil
          · rfl
          · exact rNumbers.mk x.inv
        · dsimp only [List.set]
          with_reducible apply xs_skip (b := false)
          · refine et_is (et_or' (a := false) (b := false) (et_is (et_test (ev_isN (ev_var rfl))) rfl) fun _ => et_is (et_or' (a := false) (b := false) (et_is (et_test (ev_isN (ev_var rfl))) rfl) fun _ => et_is (et_test (ev_isN (ev_var rfl))) rfl) rfl) rfl
          · rfl
          · refine xs_for (fun _ => [.fr (dT K x), .fr (sailsD f r m), .fr (.int st), .fr (.int sz), .fr (tT x), .fr (tT (x.mul x)), .fr (tT x.inv), .un, .un, .un]) (ds := (List.range 10).map fun i => D.int ((st : Int) + (i : Nat))) ?_ ?_ _ rfl ?_
            · have h2 := ei_range2 (K := K) (Δ := [.fr (dT K x), .fr (sailsD f r m), .fr (.int st), .fr (.int sz), .fr (tT x), .fr (tT (x.mul x)), .fr (tT x.inv), .un, .un, .un]) (lo := (st : Int)) (hi := (st : Int) + 10) (ea_cons (ev_var (i := 2) rfl) (ea_cons (ev_add (ev_var (i := 2) rfl) ev_int) ea_nil)) (by omega)
              have e : ((st : Int) + 10 - st).toNat = 10 := by omega
              rw [e] at h2
              exact h2
            · intro i d hd
              obtain ⟨hi, rfl⟩ := range_get hd
              have en : (st : Int) + (i : Int) = ((st + i : Nat) : Int) := by omega
              rw [en]
              have bp : ∀ n, n ≤ 400 → BdT 500000 (Pt f r n) := fun n hn => (Pt_bd hO n).le (by
                have : n * (b + 1) ≤ 400 * 1001 := Nat.mul_le_mul hn (by omega)
                omega)
              have c1 := hC.on (st + i + 1) (by omega)
              have c2 := hC.back (m := st + i + 1) (by omega)
              have c3 := hC.two (m := st + i + 1) (by omega)
              have mv : ∀ (y : Gd.Tb) (n n' : Nat), n ≤ 400 → BdT 110000 y → y.mul (Pt f r n) = Pt f r n' → rMovedP [tT y, dPt f r n] (dPt f r n') := fun y n n' hn hy e => by
                have h := rMovedP.mk y (Pt f r n).a (Pt f r n).c _ _ hy (bp n hn).a (bp n hn).c (by omega)
                have e1 : y.c * (Pt f r n).a + y.d * (Pt f r n).c = (Pt f r n').c := congrArg Gd.Tb.c e
                have e2 : y.a * (Pt f r n).a + y.b * (Pt f r n).c = (Pt f r n').a := congrArg Gd.Tb.a e
                rw [e1, e2] at h
                exact h
              refine ⟨_, as_name, ?_⟩
              with_reducible apply x_toF3 (i := 7) (j := 8) (l := 9)
              · dsimp only [List.set]
                with_reducible apply xs_set
                · walk_at "ev"
                  exact rCorner.mk f r m (st + i) (by omega) (by omega)
                · dsimp only [List.set]
                  with_reducible apply xs_set (d := dPt f r (st + i + 1 + sz))
                  · with_reducible apply ev_call' (ds := [sailsD f r m, .int ((st + i + sz : Nat) : Int)])
                    · with_reducible apply ea_is
                      · walk_at "ev"
                      · simp
                    · rfl
                    · have := rCorner.mk f r m (st + i + sz) (by omega) (by omega)
                      rw [show st + i + sz + 1 = st + i + 1 + sz by omega] at this
                      exact this
                  · dsimp only [List.set]
                    with_reducible apply xs_skip (b := false)
                    · refine et_is (et_or' (a := false) (b := false) (et_is (et_test (ev_neD (x := dPt f r (st + i + 1 + sz)) (y := dPt f r (st + i + 1 + sz)) (ev_call' (ds := [tT x, dPt f r (st + i + 1)]) ?_ rfl (mv x _ _ (by omega) (hx.le (by omega)) c1)) (ev_var rfl) (dPt_py f r _).1 (dPt_py f r _).1 (dPt_py f r _).2 (dPt_py f r _).2)) ?_) fun _ => et_is (et_test (ev_neD (x := dPt f r (st + i + 1)) (y := dPt f r (st + i + 1)) (ev_call' (ds := [tT x.inv, dPt f r (st + i + 1 + sz)]) ?_ rfl (mv x.inv _ _ (by omega) (hx.inv.le (by omega)) c2)) (ev_var rfl) (dPt_py f r _).1 (dPt_py f r _).1 (dPt_py f r _).2 (dPt_py f r _).2)) ?_) rfl
                      · exact ea_cons (ev_var rfl) (ea_cons (ev_var rfl) ea_nil)
                      · rw [eqv_refl.1 _ (dPt_py f r _).1]; rfl
                      · exact ea_cons (ev_var rfl) (ea_cons (ev_var rfl) ea_nil)
                      · rw [eqv_refl.1 _ (dPt_py f r _).1]; rfl
                    · rfl
                    · with_reducible apply xl_if_f (b := false)
                      · with_reducible apply et_is
                        · with_reducible apply et_test
                          with_reducible apply ev_neD (x := dPt f r (st + i + 1 + 2 * sz)) (y := dPt f r (st + i + 1 + 2 * sz))
                          · with_reducible apply ev_call'
                            · walk_at "ev"
                            · rfl
                            · exact mv (x.mul x) _ _ (by omega) ((hx.mul hx).le (by omega)) c3
                          · with_reducible apply ev_call' (ds := [sailsD f r m, .int ((st + i + 2 * sz : Nat) : Int)])
                            · have bz : Bd 20 (sz : Int) := by unfold Bd; omega
                              with_reducible apply ea_is
                              · walk_at "ev"
                              · simp
                            · rfl
                            · have := rCorner.mk f r m (st + i + 2 * sz) (by omega) (by omega)
                              rw [show st + i + 2 * sz + 1 = st + i + 1 + 2 * sz by omega] at this
                              exact this
                          · exact (dPt_py f r _).1
                          · exact (dPt_py f r _).1
                          · exact (dPt_py f r _).2
                          · exact (dPt_py f r _).2
                        · rw [eqv_refl.1 _ (dPt_py f r _).1]; rfl
                      · rfl
                      · exact x_next
              · rfl
            · walk_at "ret"
  exact (B.raw hb .nil).imp fun vs H Q E h => by rw [List.append_nil]; exact h
end
end Gw


set_option Elab.async false
set_option linter.all false
set_option maxRecDepth 100000
set_option maxHeartbeats 4000000
namespace Gw
open PySem PySem.Spec PyProof.Rows L2 DL
local macro_rules | `(tactic| walk_at "bd") => `(tactic| first
  | assumption
  | exact Bd.i0 | exact Bd.i1 | exact Bd.i2 | exact Bd.i4 | exact Bd.m2 | exact Bd.m1
  | ((with_reducible apply BdT.a) <;> assumption) | ((with_reducible apply BdT.b) <;> assumption) | ((with_reducible apply BdT.c) <;> assumption) | ((with_reducible apply BdT.d) <;> assumption)
  | ((with_reducible apply Bd.mul) <;> walk_at "bd")
  | ((with_reducible apply Bd.add) <;> walk_at "bd")
  | ((with_reducible apply Bd.sub) <;> walk_at "bd")
  | ((with_reducible apply Bd.neg) <;> walk_at "bd"))
local macro_rules | `(tactic| walk_at "ev") => `(tactic| first
  | ((with_reducible show ExD _ _ _ _); try dsimp only [List.set])
  | with_reducible exact ev_int | with_reducible exact ev_non | with_reducible exact ev_bl | with_reducible exact ev_str
  | ((with_reducible apply ev_var); exact rfl)
  | with_reducible exact ea_nil
  | ((with_reducible apply ea_cons) <;> walk_at "ev")
  | ((with_reducible apply ev_add) <;> walk_at "ev")
  | ((with_reducible apply ev_sub) <;> walk_at "ev")
  | ((with_reducible apply ev_mul) <;> walk_at "ev")
  | ((with_reducible apply ev_fdiv) <;> walk_at "ev")
  | ((with_reducible apply ev_mod) <;> walk_at "ev")
  | ((with_reducible apply ev_lt) <;> walk_at "ev")
  | ((with_reducible apply ev_le) <;> walk_at "ev")
  | ((with_reducible apply ev_gt) <;> walk_at "ev")
  | ((with_reducible apply ev_ge) <;> walk_at "ev")
  | ((with_reducible apply ev_eqS (tb := tC (V.str _)) (hb := ev_str)) <;> walk_at "ev")
  | ((with_reducible apply ev_neS (tb := tC (V.str _)) (hb := ev_str)) <;> walk_at "ev")
  | ((with_reducible apply ev_eqI) <;> walk_at "ev")
  | ((with_reducible apply ev_neI) <;> walk_at "ev")
  | ((with_reducible apply ev_neg) <;> walk_at "ev")
  | ((with_reducible apply ev_gcd) <;> walk_at "ev")
  | ((with_reducible apply ev_fld) <;> walk_at "ev")
  | ((with_reducible apply et_test) <;> walk_at "ev")
  | ((with_reducible apply et_B) <;> walk_at "ev")
  | ((with_reducible apply et_not) <;> walk_at "ev")
  | ((with_reducible apply ev_tup) <;> walk_at "ev")
  | ((with_reducible apply ev_make') <;> walk_at "ev")
  | ((with_reducible apply ev_call') <;> walk_at "ev")
  | ((with_reducible apply ev_meth') <;> walk_at "ev")
  | ((with_reducible show List.length _ = _); exact rfl)
  | ((with_reducible show List.length _ + 1 = _); exact rfl)
  | ((with_reducible show List.lookup _ _ = _); exact rfl)
  | ((with_reducible apply et_or') <;> walk_at "ev")
  | ((with_reducible apply et_and') <;> walk_at "ev")
  | ((with_reducible apply ev_own2) <;> walk_at "ev")
  | ((with_reducible apply ev_own1) <;> walk_at "ev")
  | ((with_reducible apply ev_st) <;> walk_at "ev")
  | ((with_reducible apply ev_abs) <;> walk_at "ev")
  | ((with_reducible apply ev_max2) <;> walk_at "ev")
  | ((with_reducible apply ev_divmod) <;> walk_at "ev")
  | ((with_reducible apply ev_intI) <;> walk_at "ev")
  | ((with_reducible apply ev_isN) <;> walk_at "ev")
  | ((with_reducible apply ev_notN) <;> walk_at "ev")
  | ((with_reducible apply ev_eqS) <;> walk_at "ev")
  | ((with_reducible apply ev_neS) <;> walk_at "ev")
  | ((with_reducible apply ev_lenO); exact rfl)
  | ((with_reducible apply ev_len) <;> walk_at "ev")
  | ((with_reducible show D.items _ = _); first | assumption | exact rfl)
  | ((with_reducible show rTableI _ _ _); exact ⟨rfl, rfl⟩)
  | ((with_reducible show _ = false); first | rfl | (simp; done) | (simp; omega))
  | ((with_reducible show _ = true); first | rfl | (simp; done) | (simp; omega))
  | ((with_reducible show 2 = _); exact rfl)
  | ((with_reducible show 1 = _); exact rfl)
  | exact Txt.clTable ‹_› | exact Txt.clFrac ‹_› | exact Txt.clRow ‹_› | exact Txt.clRoot ‹_›
  | exact Txt.nTable_a ‹_› | exact Txt.nTable_b ‹_› | exact Txt.nTable_c ‹_› | exact Txt.nTable_d ‹_› | exact Txt.nFrac_top ‹_› | exact Txt.nFrac_bottom ‹_›
  | exact Txt.nRow_head ‹_› | exact Txt.nRow_loop ‹_› | exact Txt.nRow_kind ‹_› | exact Txt.nRoot_a ‹_› | exact Txt.nRoot_b ‹_› | exact Txt.nRoot_c ‹_› | exact Txt.nRoot_disc ‹_›
  | ((with_reducible apply Bd.cm) <;> first | walk_at "bd" | omega)
  | ((with_reducible show _ ≤ _); simp only [List.length_cons, List.length_nil]; omega)
  | ((with_reducible intro _); walk_at "ev")
  | skip)
local macro_rules | `(tactic| walk_at "set") => `(tactic| ((with_reducible apply xs_set) <;> walk_at "ev"))
local macro_rules | `(tactic| walk_at "ret") => `(tactic| ((with_reducible apply x_ret) <;> walk_at "ev"))
local macro_rules | `(tactic| walk_at "as4") => `(tactic| ((with_reducible (first | apply xs_as4 | apply xl_as4)) <;> walk_at "ev"))
local macro_rules | `(tactic| walk_at "as3") => `(tactic| ((with_reducible (first | apply xs_as3 | apply xl_as3)) <;> walk_at "ev"))
local macro_rules | `(tactic| walk_at "as2") => `(tactic| ((with_reducible (first | apply xs_as2 | apply xl_as2)) <;> walk_at "ev"))
local macro_rules | `(tactic| walk_at "par") => `(tactic| ((with_reducible (first | apply xs_par | apply x_par)) <;> walk_at "ev"))
local macro_rules | `(tactic| walk_at "fld") => `(tactic| ((with_reducible (first | apply xs_fld | apply x_fld)) <;> first | exact rfl | decide | walk_at "ev"))
local macro_rules | `(tactic| walk_at "guard") => `(tactic| ((with_reducible apply xs_guard) <;> walk_at "ev"))
local macro_rules | `(tactic| walk_at "skip") => `(tactic| ((with_reducible apply xs_skip) <;> walk_at "ev"))
local macro_rules | `(tactic| walk_at "take") => `(tactic| ((with_reducible apply xs_take) <;> walk_at "ev"))
local macro_rules | `(tactic| walk_at "clean") => `(tactic| try simp only [cxK, cxK', asnL, List.length_cons, List.length_nil, Nat.zero_add, Nat.reduceAdd])
local macro_rules | `(tactic| walk_at "ev") => `(tactic| first
  | ((with_reducible apply ev_ix) <;> walk_at "ev")
  | ((with_reducible show atI _ _ = _); first | assumption | exact rfl))
section
variable {P : Program} {w : World} {K : Frag} {mg : Str → Option Value} {base : Heap}
abbrev dCv (K : Frag) (f r : List Int) (n : Nat) : D := dF K (Pt f r (n + 1)).a (Pt f r (n + 1)).c
theorem cayley (x p : Gd.Tb) : (x.mul (x.mul p)).a = x.trace * (x.mul p).a - x.det * p.a ∧ (x.mul (x.mul p)).c = x.trace * (x.mul p).c - x.det * p.c := by
  constructor <;> simp only [Gd.Tb.mul, Gd.Tb.trace, Gd.Tb.det] <;> grind
inductive rFollow (K : Frag) : List D → D → Prop
  | mk (f r : List Int) (x : Gd.Tb) (b k st sz N : Nat) (h : Carry f r x st sz) (hO : RowOk f r b) (hft : Gd.Pos f.tail) (hrp : Gd.Pos r) (hx : BdT k x) (hk : k ≤ 50000) (hs : st + 10 + 2 * sz ≤ N) (hN : N ≤ 500) (hm : (N + 1) * (b + 1) + b ≤ 7000) : rFollow K [dW K f r, dT K x, .lst ((List.range N).map fun j => dPt f r (j + 1)), .int st, .int sz] (.bl true)
abbrev N__law_follow : List Str := [("row" : Str), ("kept" : Str), ("points" : Str), ("start" : Str), ("size" : Str), ("trace" : Str), ("det" : Str), ("n" : Str), ("told" : Str), ("k" : Str)]
theorem sc__law_follow : FnScope N__law_follow [("row" : Str), ("kept" : Str), ("points" : Str), ("start" : Str), ("size" : Str)] (defScope s__law_follow) := ⟨rfl, rfl, rfl, by decide +kernel, rfl, by decide +kernel, by decide +kernel⟩
theorem ok__law_follow {f : Addr} {fd : FuncData} (F : FunD K "_law_follow" "_law_follow" (defArgs s__law_follow) (defBody s__law_follow) (defScope s__law_follow) [] [] f fd) (hb : Binds K fd [("row" : Str), ("kept" : Str), ("points" : Str), ("start" : Str), ("size" : Str)] []) (T : Txt K mg) (h_Table_trace : Me P w K mg base (cTable K) "trace" 1 (spD K 1 (rTTrace K))) (h_Table_det : Me P w K mg base (cTable K) "det" 1 (spD K 1 (rTDet K))) (h_Row_convergent : Me P w K mg base (cRow K) "convergent" 6 (spD K 2 (rConv K))) (h__law_whole : Fn P w K mg base "_law_whole" 1 (spD K 1 rWhole)) : FnR P w K mg base CX0 7 f (spD K 5 (rFollow K)) := by
  have B : FnOk P w K mg base CX0 7 f fd [("row" : Str), ("kept" : Str), ("points" : Str), ("start" : Str), ("size" : Str)] (spD K 5 (rFollow K)) := by
    refine F.ok sc__law_follow (fun vs H Q E h => h.1) (fun cdv A outer s H vs Q E hr h => ?_)
    have hr1 : Room 1 _ := hr.mono (by decide)
    have hr6 : Room 6 _ := hr.mono (by decide)
    have hu := hr.units
    have hu1 : _ + 1 < cLine := Nat.lt_of_le_of_lt (Nat.add_le_add_left (by decide : 1 ≤ 64) _) hr.units
    have nd := sc__law_follow.nd
    refine ⟨_, PSs.nox (pss_cons (ps_set (i := 5) nd rfl (Or.inl rfl) (pe_me0 h_Table_trace hr1 T.clTable (pv 1)))
      (pss_cons (ps_set (i := 6) nd rfl (Or.inl rfl) (pe_me0 h_Table_det hr1 T.clTable (pv 1)))
      (pss_cons (ps_for PassesOwn.never rfl (pi_range2 rfl T.b_range (pa_cons (pv 3) (pa_cons (pe_op op_add (pv 3) pe_int) pa_nil))) (pg_name (i := 7) nd rfl (Or.inl rfl)) (pss_cons (ps_set (i := 8) nd rfl (Or.inl rfl) (pe_lst (pa_cons (pe_me h_Row_convergent hr6 T.clRow (pv 0) (pa_cons (pv 7) pa_nil)) (pa_cons (pe_me h_Row_convergent hr6 T.clRow (pv 0) (pa_cons (pe_op op_add (pv 7) (pv 4)) pa_nil)) (pa_cons (pe_me h_Row_convergent hr6 T.clRow (pv 0) (pa_cons (pe_op op_add (pv 7) (pe_op op_mulW pe_int (pv 4))) pa_nil)) pa_nil)))))
        (pss_cons (ps_for PassesOwn.never rfl (pi_range1 rfl T.b_range (pa_cons pe_int pa_nil)) (pg_name (i := 9) nd rfl (Or.inl rfl)) (pss_one (ps_if (PW.pt (pw_or (pt_not (pt_val (pe_callB call_isi (by rfl) T.b_isinstance (by decide +kernel) (pa_cons (pe_ix (show IxR _ (rIx K) from ix_seq) (pv 8) (pv 9) (fun _ _ => rfl)) (pa_cons (pe_glob (v := .ref (cFrac K)) rfl (T.mgFrac) rfl) pa_nil))))) (pw_or1 (pt_cmpR (op_neD hu) (pe_tup (pa_cons (pe_fld (pe_ix (show IxR _ (rIx K) from ix_seq) (pv 8) (pv 9) (fun _ _ => rfl)) rfl) (pa_cons (pe_fld (pe_ix (show IxR _ (rIx K) from ix_seq) (pv 8) (pv 9) (fun _ _ => rfl)) rfl) pa_nil))) (pe_ix (show IxR _ (rIx K) from ix_seq) (pv 2) (pe_op op_add (pv 7) (pe_op op_mulW (pv 9) (pv 4))) (fun _ _ => rfl)) (nomark _))))) (pss_one (ps_ret pe_bl)) pss_nil)))
        (pss_cons (ps_if (pt_cmpR op_ne (pe_fld (pe_ix (show IxR _ (rIx K) from ix_seq) (pv 8) pe_int (fun _ _ => rfl)) rfl) (pe_op op_sub (pe_op op_mulW (pv 5) (pe_fld (pe_ix (show IxR _ (rIx K) from ix_seq) (pv 8) pe_int (fun _ _ => rfl)) rfl)) (pe_op op_mulW (pv 6) (pe_fld (pe_ix (show IxR _ (rIx K) from ix_seq) (pv 8) pe_int (fun _ _ => rfl)) rfl))) (nomark _)) (pss_one (ps_ret pe_bl)) pss_nil)
        (pss_one (ps_if (pt_cmpR op_ne (pe_fld (pe_ix (show IxR _ (rIx K) from ix_seq) (pv 8) pe_int (fun _ _ => rfl)) rfl) (pe_op op_sub (pe_op op_mulW (pv 5) (pe_fld (pe_ix (show IxR _ (rIx K) from ix_seq) (pv 8) pe_int (fun _ _ => rfl)) rfl)) (pe_op op_mulW (pv 6) (pe_fld (pe_ix (show IxR _ (rIx K) from ix_seq) (pv 8) pe_int (fun _ _ => rfl)) rfl))) (nomark _)) (pss_one (ps_ret pe_bl)) pss_nil))))))
      (pss_one (ps_ret (pe_and (pe_fn h__law_whole hr1 rfl (pa_cons (pv 5) pa_nil)) (pe_one (pe_fn h__law_whole hr1 rfl (pa_cons (pv 6) pa_nil))))))))), enter h (by decide) ?_⟩
    rintro _ _ ⟨f, r, x, b, k, st, sz, N, hC, hO, hft, hrp, hx, hk, hs, hN, hm⟩ _
    left
    show ExD K _ [.fr (dW K f r), .fr (dT K x), .fr (.lst ((List.range N).map fun j => dPt f r (j + 1))), .fr (.int st), .fr (.int sz), .un, .un, .un, .un, .un] _
    walk_at "clean"
    have hdt : Bd 1 x.det := by rcases hC.dt with h | h <;> rw [h] <;> (unfold Bd; decide)
    have htr : Bd (k + 1) x.trace := hx.a.addm hx.d
    have bsz : Bd 20 (sz : Int) := by unfold Bd; omega
    have hb : b ≤ 7000 := by omega
    have hdet : rTDet K [dT K x] (.int x.det) := .mk x k hx (by omega)
    with_reducible apply xs_set
    · walk_at "ev"
      exact rTTrace.mk x
    · dsimp only [List.set]
      with_reducible apply xs_set
      · walk_at "ev"
        exact hdet
      · dsimp only [List.set]
        refine xs_for (fun _ => [.fr (dW K f r), .fr (dT K x), .fr (.lst ((List.range N).map fun j => dPt f r (j + 1))), .fr (.int st), .fr (.int sz), .fr (.int x.trace), .fr (.int x.det), .un, .un, .un]) (ds := (List.range 10).map fun i => D.int ((st : Int) + (i : Nat))) ?_ ?_ _ rfl ?_
        · have h2 := ei_range2 (K := K) (Δ := [.fr (dW K f r), .fr (dT K x), .fr (.lst ((List.range N).map fun j => dPt f r (j + 1))), .fr (.int st), .fr (.int sz), .fr (.int x.trace), .fr (.int x.det), .un, .un, .un]) (lo := (st : Int)) (hi := (st : Int) + 10) (ea_cons (ev_var (i := 3) rfl) (ea_cons (ev_add (ev_var (i := 3) rfl) ev_int) ea_nil)) (by omega)
          have e : ((st : Int) + 10 - st).toNat = 10 := by omega
          rw [e] at h2
          exact h2
        · intro i d hd
          obtain ⟨hi, rfl⟩ := range_get hd
          have en : (st : Int) + (i : Int) = ((st + i : Nat) : Int) := by omega
          rw [en]
          generalize hn : st + i = n
          have bp : ∀ m, m ≤ N → BdT 8000 (Pt f r m) := fun m hm2 => (Pt_bd hO m).le (by
            have : m * (b + 1) ≤ (N + 1) * (b + 1) := Nat.mul_le_mul_right _ (by omega)
            omega)
          have cv : ∀ m, m < N → rConv K [dW K f r, .int ((m : Nat) : Int)] (dCv K f r m) := fun m hm2 => .mk f r b m hO hft hrp (by omega) (by
            have : (m + 1) * (b + 1) ≤ (N + 1) * (b + 1) := Nat.mul_le_mul_right _ (by omega)
            omega)
          have p0 := bp (n + 1) (by omega)
          have p1 := bp (n + sz + 1) (by omega)
          have ch := cayley x (Pt f r (n + 1))
          have e1 : x.mul (Pt f r (n + 1)) = Pt f r (n + sz + 1) := by rw [hC.on _ (by omega)]; congr 1; omega
          have e2 : x.mul (Pt f r (n + sz + 1)) = Pt f r (n + 2 * sz + 1) := by rw [hC.on _ (by omega)]; congr 1; omega
          rw [e1, e2] at ch
          refine ⟨_, as_name, ?_⟩
          with_reducible apply x_toF3 (i := 7) (j := 8) (l := 9)
          · dsimp only [List.set]
            with_reducible apply xs_setL (ds := [dCv K f r n, dCv K f r (n + sz), dCv K f r (n + 2 * sz)])
            · with_reducible apply el_lst
              · with_reducible apply ea_cons
                · walk_at "ev"
                  exact cv n (by omega)
                · with_reducible apply ea_cons
                  · with_reducible apply ev_meth' (ds := [.int ((n + sz : Nat) : Int)])
                    · walk_at "ev"
                    · with_reducible apply ea_is
                      · walk_at "ev"
                      · simp
                    · rfl
                    · rfl
                    · exact cv (n + sz) (by omega)
                  · with_reducible apply ea_cons
                    · with_reducible apply ev_meth' (ds := [.int ((n + 2 * sz : Nat) : Int)])
                      · walk_at "ev"
                      · with_reducible apply ea_is
                        · walk_at "ev"
                        · simp
                      · rfl
                      · rfl
                      · exact cv (n + 2 * sz) (by omega)
                    · exact ea_nil
              · simp
            · dsimp only [List.set]
              refine x_freeze (i := 8) rfl ?_
              dsimp only [List.set]
              have ti : ∀ j : Nat, j < 3 → atI [dCv K f r n, dCv K f r (n + sz), dCv K f r (n + 2 * sz)] (j : Int) = some (dCv K f r (n + j * sz)) := fun j hj => by
                apply atI_nat
                match j, hj with
                | 0, _ => simp
                | 1, _ => simp
                | 2, _ => simp
              refine xs_for (fun _ => [.fr (dW K f r), .fr (dT K x), .fr (.lst ((List.range N).map fun j => dPt f r (j + 1))), .fr (.int st), .fr (.int sz), .fr (.int x.trace), .fr (.int x.det), .fr (.int n), .fr (.lst [dCv K f r n, dCv K f r (n + sz), dCv K f r (n + 2 * sz)]), .un]) (ei_range1 (n := 3) (ea_cons ev_int ea_nil) (by omega) (by omega)) ?_ 3 rfl ?_
              · intro j d hd
                obtain ⟨hj, rfl⟩ := range_get hd
                have hj : j < 3 := hj
                have tj := ti j hj
                have bj : Bd 20 (j : Int) := by unfold Bd; omega
                have jz : j * sz ≤ 2 * sz := Nat.mul_le_mul_right _ (by omega)
                refine ⟨_, as_name, ?_⟩
                with_reducible apply x_toF (i := 9)
                · dsimp only [List.set]
                  with_reducible apply xl_if_f (b := false)
                  · with_reducible apply et_is
                    · with_reducible apply et_or' (a := false)
                      · with_reducible apply et_is
                        · with_reducible apply et_not
                          with_reducible apply et_B
                          with_reducible apply ev_isi (x := dCv K f r (n + j * sz)) (b := true)
                          · exact ev_ix (ev_var rfl) (ev_var (i := 9) rfl) rfl tj
                          · exact T.iFrac
                          · exact .own _
                          · exact T.kFrac
                        · rfl
                      · intro _
                        with_reducible apply et_test
                        with_reducible apply ev_neD (x := dPt f r (n + j * sz + 1)) (y := dPt f r (n + j * sz + 1))
                        · with_reducible apply ev_tup
                          · with_reducible apply ea_cons
                            · with_reducible apply ev_fld
                              · exact ev_ix (ev_var rfl) (ev_var (i := 9) rfl) rfl tj
                              · exact T.clFrac
                              · exact T.nFrac_bottom
                              · rfl
                            · with_reducible apply ea_cons
                              · with_reducible apply ev_fld
                                · exact ev_ix (ev_var (i := 8) rfl) (ev_var (i := 9) rfl) rfl tj
                                · exact T.clFrac
                                · exact T.nFrac_top
                                · rfl
                              · exact ea_nil
                          · simp
                        · with_reducible apply ev_ix (i := ((n + j * sz : Nat) : Int))
                          · walk_at "ev"
                          · with_reducible apply ev_is
                            · walk_at "ev"
                            · simp
                          · rfl
                          · apply atI_nat
                            rw [List.getElem?_map, List.getElem?_range (by omega)]; rfl
                        · exact (dPt_py f r _).1
                        · exact (dPt_py f r _).1
                        · exact (dPt_py f r _).2
                        · exact (dPt_py f r _).2
                    · rw [eqv_refl.1 _ (dPt_py f r _).1]; rfl
                  · rfl
                  · exact x_next
                · rfl
              · with_reducible apply xs_skip
                · walk_at "ev"
                · rw [ch.1]; simp
                · with_reducible apply xl_if_f
                  · walk_at "ev"
                  · rw [ch.2]; simp
                  · exact x_next
          · rfl
        · with_reducible apply x_ret
          exact ev_is (ev_andV (a := true) (b := true) (ev_call' (ds := [.int x.trace]) (ea_cons (ev_var rfl) ea_nil) rfl (rWhole.mk _)) fun _ => ev_call' (ds := [.int x.det]) (ea_cons (ev_var rfl) ea_nil) rfl (rWhole.mk _)) rfl
  exact (B.raw hb .nil).imp fun vs H Q E h => by rw [List.append_nil]; exact h
end
end Gw


set_option Elab.async false
set_option linter.all false
set_option maxRecDepth 100000
set_option maxHeartbeats 4000000
namespace Gw
open PySem PySem.Spec PyProof.Rows L2 DL
section
theorem uns_all {f r : List Int} (r0 : r ≠ []) : Gd.uns f r (f.length + r.length) = f ++ r := tin_all r0
theorem uns_take {f r : List Int} {n i : Nat} (h : i ≤ n) : (Gd.uns f r n).take i = Gd.uns f r i := by
  unfold Gd.uns; rw [← List.map_take, List.take_range, Nat.min_eq_left h]
theorem uns_get {f r : List Int} {n i : Nat} (h : i < n) : (Gd.uns f r n).getD i 0 = Gd.un f r i := by
  unfold Gd.uns
  rw [List.getD_eq_getElem?_getD, List.getElem?_map, List.getElem?_range h]; rfl
theorem rolls {q : Gd.Qf} {f r : List Int} {g D s : Int} {k : Nat} (h : Gd.Rooted q f r g D s) (hb : ∀ i, i ≤ f.length + r.length → BdQ k (Gd.St q f r i)) (ht : ∀ t ∈ f ++ r, Bd k t) (kz : k < 8000) :
    ∃ ts a, Rolls q s ts a k ∧ rollT ts a = f ++ r ∧ rollA a = f.length ∧ ts.length ≤ f.length + r.length := by
  have rl : 0 < r.length := List.length_pos_iff.mpr h.one.r0
  have fl : 0 < f.length := List.length_pos_iff.mpr h.one.f0
  have run_eq : ∀ n i, i ≤ n → q.run ((Gd.uns f r n).take i) = Gd.St q f r i := fun n i hi => by rw [uns_take hi]; rfl
  have base : ∀ n a, n ≤ f.length + r.length → a < n → (∀ i j, i < j → j < n → Gd.St q f r i ≠ Gd.St q f r j) → Gd.St q f r n = Gd.St q f r a → Rolls q s (Gd.uns f r n) a k := fun n a hn ha hd hk => by
    have len : (Gd.uns f r n).length = n := Gd.uns_len f r n
    refine ⟨by rw [len]; exact ha, fun i hi => ?_, fun i j hij hj => ?_, ?_, fun i hi => ?_, fun t htm => ?_, fun i hi => ?_, kz⟩
    · rw [len] at hi
      rw [run_eq n i (by omega), uns_get hi]; exact h.floor i
    · rw [len] at hj
      rw [run_eq n i (by omega), run_eq n j (by omega)]; exact hd i j hij hj
    · rw [run_eq n a (by omega)]; exact hk
    · rw [len] at hi
      rw [run_eq n i hi]; exact hb i (by omega)
    · apply ht
      rw [← uns_all h.one.r0]
      unfold Gd.uns at htm ⊢
      rw [List.mem_map] at htm ⊢
      obtain ⟨i, hi, rfl⟩ := htm
      rw [List.mem_range] at hi
      exact ⟨i, List.mem_range.mpr (by omega), rfl⟩
    · rw [len] at hi
      rw [run_eq n i (by omega)]; exact Gd.a_ne h.side (h.disc i)
  by_cases hA : f.length = 1 ∧ f.getD 0 0 = Gd.rt r (-1)
  · obtain ⟨h1, h2⟩ := hA
    have hu : Gd.un f r r.length = Gd.un f r 0 := by
      unfold Gd.un
      rw [if_neg (by omega), if_pos (by omega), h2, h1]
      have := Gd.rt_add (r := r) (-1) 1
      rw [← this]
      congr 1; omega
    have hback : Gd.St q f r r.length = Gd.St q f r 0 := by
      have e := h.back
      rw [h1, Nat.add_comm 1, Gd.St_succ, show (1 : Nat) = 0 + 1 from rfl, Gd.St_succ q f r 0, hu] at e
      exact Gd.nxt_inj e
    refine ⟨Gd.uns f r r.length, 0, base _ _ (by omega) rl (fun i j hij hj e => ?_) hback, ?_, ?_, ?_⟩
    · obtain ⟨d, rfl⟩ : ∃ d, j = i + d := ⟨j - i, by omega⟩
      have := Nat.le_of_dvd (by omega) (h.dvd e)
      omega
    · unfold rollT
      rw [if_pos rfl, uns_get rl, ← hu, ← Gd.uns_succ, ← uns_all h.one.r0, h1, Nat.add_comm]
    · unfold rollA; rw [if_pos rfl, h1]
    · rw [Gd.uns_len]; omega
  · refine ⟨Gd.uns f r (f.length + r.length), f.length, base _ _ (Nat.le_refl _) (by omega) (fun i j hij hj e => ?_) h.back, ?_, ?_, ?_⟩
    · obtain ⟨d, rfl⟩ : ∃ d, j = i + d := ⟨j - i, by omega⟩
      have hdv := h.dvd e
      have hge := Nat.le_of_dvd (by omega) hdv
      have hi : i < f.length := by omega
      have hu := h.sameU e (f.length - 1 - i)
      have e1 : i + (f.length - 1 - i) = f.length - 1 := by omega
      have e2 : i + d + (f.length - 1 - i) = f.length + (d - 1) := by omega
      rw [e1, e2, Gd.un_ring] at hu
      have hl : Gd.un f r (f.length - 1) = f.getD (f.length - 1) 0 := by unfold Gd.un; rw [if_pos (by omega)]
      rw [hl] at hu
      obtain ⟨c, hc⟩ := hdv
      have e3 : Gd.rt r ((d - 1 : Nat) : Int) = Gd.rt r (-1) := by
        have := Gd.rt_add (r := r) (-1) c
        rw [← this]
        congr 1
        have : (d : Int) = (c : Int) * r.length := by rw [hc, Int.natCast_mul, Int.mul_comm]
        omega
      rw [e3] at hu
      rcases h.one.last with h1 | h1
      · exact hA ⟨h1, by rw [h1] at hu; exact hu⟩
      · exact h1 hu
    · unfold rollT
      rw [if_neg (by omega), uns_all h.one.r0]
    · unfold rollA; rw [if_neg (by omega)]
    · rw [Gd.uns_len]; exact Nat.le_refl _
/-! ### the keeper carries -/
theorem ring_more {r : List Int} (r0 : r ≠ []) (j : Nat) : (List.range (r.length + j)).map (fun i : Nat => Gd.rt r i) = r ++ (List.range j).map (fun i : Nat => Gd.rt r i) := by
  rw [List.range_add, List.map_append, List.map_map]
  congr 1
  · apply List.ext_getElem
    · simp
    · intro i h1 h2
      rw [List.getElem_map, List.getElem_range, Gd.rt_nat r0, Nat.mod_eq_of_lt h2, List.getD_eq_getElem?_getD, List.getElem?_eq_getElem h2]; rfl
  · apply List.map_congr_left
    intro i _
    show Gd.rt r (((r.length + i : Nat) : Int)) = _
    have := Gd.rt_add (r := r) (i : Int) 1
    rw [← this]
    congr 1; omega
def kpr (f r : List Int) : Gd.Tb := (Gd.prod (f ++ r)).mul (Gd.prod f).inv
theorem kpr_det (f r : List Int) : (kpr f r).det = Gd.sgn r.length := by
  unfold kpr
  rw [Gd.Tb.det_mul, Gd.Tb.det_inv (Gd.det_prod_or f), Gd.det_prod, Gd.det_prod, List.length_append, Nat.add_comm, Gd.sgn_add, Int.mul_assoc, Gd.sgn_sq, Int.mul_one]
theorem kpr_carry {f r : List Int} (f0 : f ≠ []) (r0 : r ≠ []) : Carry f r (kpr f r) (f.length - 1) r.length := by
  have fl : 0 < f.length := List.length_pos_iff.mpr f0
  refine ⟨fun m hm => ?_, ?_⟩
  · obtain ⟨j, rfl⟩ : ∃ j, m = f.length + j := ⟨m - f.length, by omega⟩
    have e1 : Pt f r (f.length + j) = Gd.prod (f ++ (List.range j).map (fun i : Nat => Gd.rt r i)) := by unfold Pt; rw [tin_unroll r0]
    have e2 : Pt f r (f.length + j + r.length) = Gd.prod (f ++ (r ++ (List.range j).map (fun i : Nat => Gd.rt r i))) := by
      rw [← ring_more r0, show f.length + j + r.length = f.length + (r.length + j) by omega]
      unfold Pt; rw [tin_unroll r0]
    rw [e1, e2, ← List.append_assoc, Gd.prod_append (f ++ r), Gd.prod_append f]
    unfold kpr
    rw [Gd.Tb.mul_assoc, ← Gd.Tb.mul_assoc (Gd.prod f).inv, Gd.Tb.inv_mul (Gd.det_prod_or f), Gd.Tb.one_mul]
  · rw [kpr_det]; exact Gd.sgn_or _
/-- a state behind the head is no greater than the keeper's form -/
theorem bd_unscale {k : Nat} {g x : Int} (hg : 0 < g) (h : Bd k (g * x)) : Bd k x := by
  unfold Bd at *
  rw [Int.natAbs_mul] at h
  have : 1 * x.natAbs ≤ g.natAbs * x.natAbs := Nat.mul_le_mul_right _ (by omega)
  omega
theorem bdQ_run {k l : Nat} {q : Gd.Qf} {ts : List Int} (h : BdQ k q) (ht : BdT l (Gd.prod ts)) : BdQ (k + l + l + k + l + l + k + l + l + 30) (q.run ts) := by
  rw [Gd.Qf.run_eq]
  have hb := h.on ht
  rcases Gd.sgn_or ts.length with e | e
  · rw [e, Gd.Qf.scale_one]; exact hb
  · rw [e]
    have : ∀ i : Int, -1 * i = -i := fun i => by omega
    exact ⟨by show Bd _ (-1 * _); rw [this]; exact hb.a.neg, by show Bd _ (-1 * _); rw [this]; exact hb.b.neg, by show Bd _ (-1 * _); rw [this]; exact hb.c.neg⟩
theorem keep_bd {l : Nat} {x : Gd.Tb} (br : BdT l x) : BdQ (l + 1) (Gd.Qf.keep x) := by
  refine ⟨br.c.le (by omega), ?_, br.b.neg.le (by omega)⟩
  show Bd (l + 1) (x.d - x.a)
  rw [Int.sub_eq_add_neg]
  exact br.d.addm br.a.neg
/-- all that the root of a row needs -/
theorem root_row {K : Frag} {f r : List Int} (hO : Gd.OneF f r) (hft : Gd.Pos f.tail) (hr : Gd.Pos r) (fz : f.length ≤ 5) (rz : r.length ≤ 4) (fb : ∀ x ∈ f, Bd 4 x) (rb : ∀ x ∈ r, Bd 105 x) :
    ∃ q : Gd.Qf, rRootOf K [dW K f r] (dR K q) ∧ rRowOf K [dR K q] (dW K f r) := by
  have rl : 0 < r.length := List.length_pos_iff.mpr hO.r0
  have bf : BdT 26 (Gd.prod f) := (BdT.prod fb).le (by omega)
  have br : BdT 425 (Gd.prod r) := (BdT.prod rb).le (by omega)
  have up := Gd.up_prod hr hO.r0
  obtain ⟨S, hS, _⟩ := Gd.keep_disc up (Gd.det_prod_or r)
  have h0 : (Gd.Qf.keep (Gd.prod r)).a ≠ 0 := by have := up.c1; show (Gd.prod r).c ≠ 0; omega
  obtain ⟨hpr, hcp⟩ := Gd.Qf.redu_pr h0
  have hsc := (Gd.Qf.keep (Gd.prod r)).redu_scale
  obtain ⟨s, hs⟩ := Gd.side_unscale (D := (Gd.Qf.keep (Gd.prod r)).redu.disc) (k := (Gd.Qf.keep (Gd.prod r)).cont) (S := S) (by omega) (by
    rw [← Gd.Qf.disc_scale, hsc]; exact hS)
  have kb := keep_bd br
  have kr : BdQ 426 (Gd.Qf.keep (Gd.prod r)).redu := ⟨kb.a.ediv (by omega), kb.b.ediv (by omega), kb.c.ediv (by omega)⟩
  have hq := kr.moved bf
  have hrun := Gd.Qf.moved_run (Gd.Qf.keep (Gd.prod r)).redu f
  have hdis := Gd.Qf.disc_moved (Gd.Qf.keep (Gd.prod r)).redu f
  have hroot : Gd.Rooted ((Gd.Qf.keep (Gd.prod r)).redu.moved (Gd.prod f)) f r ((Gd.Qf.keep (Gd.prod r)).cont : Int) (Gd.Qf.keep (Gd.prod r)).redu.disc s := ⟨by omega, by rw [hrun]; exact hsc, hdis, hs, hO, hft, hr⟩
  refine ⟨(Gd.Qf.keep (Gd.prod r)).redu.moved (Gd.prod f), .mk f r 425 26 105 S rb (fun x hx => (fb x hx).le (by decide)) (by omega) (by omega) (by omega) h0 hS br bf (by omega), ?_⟩
  generalize hqq : (Gd.Qf.keep (Gd.prod r)).redu.moved (Gd.prod f) = q at *
  have hbd : ∀ i, i ≤ f.length + r.length → BdQ 5000 (Gd.St q f r i) := fun i hi => by
    rcases Nat.lt_or_ge i f.length with hlt | hge
    · have hu : Gd.uns f r i = f.take i := by
        have := uns_take (f := f) (r := r) (n := f.length) (i := i) (by omega)
        rw [Gd.uns_front] at this
        exact this.symm
      have b : BdT 26 (Gd.prod (Gd.uns f r i)) := by
        rw [hu]
        refine (BdT.prod fun t ht => fb t (List.mem_of_mem_take ht)).le ?_
        have : (f.take i).length ≤ 5 := by rw [List.length_take]; omega
        omega
      have := bdQ_run (ts := Gd.uns f r i) hq b
      exact ⟨this.a.le (by omega), this.b.le (by omega), this.c.le (by omega)⟩
    · obtain ⟨j, rfl⟩ : ∃ j, i = f.length + j := ⟨i - f.length, by omega⟩
      have e := hroot.st_ring j
      have b : BdQ 426 (Gd.Qf.keep (Gd.prod (Gd.rot r j))) := keep_bd ((BdT.prod (l := 105) fun t ht => by
        unfold Gd.rot at ht
        rw [List.mem_map] at ht
        obtain ⟨i, _, rfl⟩ := ht
        exact rb _ (Gd.rt_mem hO.r0 _)).le (by rw [Gd.rot_len]; omega))
      rw [← e] at b
      exact ⟨(bd_unscale hroot.g0 b.a).le (by omega), (bd_unscale hroot.g0 b.b).le (by omega), (bd_unscale hroot.g0 b.c).le (by omega)⟩
  obtain ⟨ts, a, hR, e1, e2, hl⟩ := rolls (k := 5000) hroot hbd (fun t ht => by
    rcases List.mem_append.mp ht with h | h
    · exact (fb t h).le (by decide)
    · exact (rb t h).le (by decide)) (by omega)
  have bdisc : Bd 11999 q.disc := by
    have h1 : Bd _ (q.b * q.b - 4 * q.a * q.c) := Bd.sub (Bd.mul hq.b hq.b) (Bd.mul (Bd.mul Bd.i4 hq.a) hq.c)
    exact h1.le (by omega)
  exact .mk q f r s ts a 5000 hR (by rw [hdis]; exact hs) bdisc (by omega) e1 e2 hO hft hr
end
end Gw


set_option Elab.async false
set_option linter.all false
set_option maxRecDepth 100000
set_option maxHeartbeats 4000000
namespace Gw
open PySem PySem.Spec PyProof.Rows L2 DL
local macro_rules | `(tactic| walk_at "bd") => `(tactic| first
  | assumption
  | exact Bd.i0 | exact Bd.i1 | exact Bd.i2 | exact Bd.i4 | exact Bd.m2 | exact Bd.m1
  | ((with_reducible apply BdT.a) <;> assumption) | ((with_reducible apply BdT.b) <;> assumption) | ((with_reducible apply BdT.c) <;> assumption) | ((with_reducible apply BdT.d) <;> assumption)
  | ((with_reducible apply Bd.mul) <;> walk_at "bd")
  | ((with_reducible apply Bd.add) <;> walk_at "bd")
  | ((with_reducible apply Bd.sub) <;> walk_at "bd")
  | ((with_reducible apply Bd.neg) <;> walk_at "bd"))
local macro_rules | `(tactic| walk_at "ev") => `(tactic| first
  | ((with_reducible show ExD _ _ _ _); try dsimp only [List.set])
  | with_reducible exact ev_int | with_reducible exact ev_non | with_reducible exact ev_bl | with_reducible exact ev_str
  | ((with_reducible apply ev_var); exact rfl)
  | with_reducible exact ea_nil
  | ((with_reducible apply ea_cons) <;> walk_at "ev")
  | ((with_reducible apply ev_add) <;> walk_at "ev")
  | ((with_reducible apply ev_sub) <;> walk_at "ev")
  | ((with_reducible apply ev_mul) <;> walk_at "ev")
  | ((with_reducible apply ev_fdiv) <;> walk_at "ev")
  | ((with_reducible apply ev_mod) <;> walk_at "ev")
  | ((with_reducible apply ev_lt) <;> walk_at "ev")
  | ((with_reducible apply ev_le) <;> walk_at "ev")
  | ((with_reducible apply ev_gt) <;> walk_at "ev")
  | ((with_reducible apply ev_ge) <;> walk_at "ev")
  | ((with_reducible apply ev_eqS (tb := tC (V.str _)) (hb := ev_str)) <;> walk_at "ev")
  | ((with_reducible apply ev_neS (tb := tC (V.str _)) (hb := ev_str)) <;> walk_at "ev")
  | ((with_reducible apply ev_eqI) <;> walk_at "ev")
  | ((with_reducible apply ev_neI) <;> walk_at "ev")
  | ((with_reducible apply ev_neg) <;> walk_at "ev")
  | ((with_reducible apply ev_gcd) <;> walk_at "ev")
  | ((with_reducible apply ev_fld) <;> walk_at "ev")
  | ((with_reducible apply et_test) <;> walk_at "ev")
  | ((with_reducible apply et_B) <;> walk_at "ev")
  | ((with_reducible apply et_not) <;> walk_at "ev")
  | ((with_reducible apply ev_tup) <;> walk_at "ev")
  | ((with_reducible apply ev_make') <;> walk_at "ev")
  | ((with_reducible apply ev_call') <;> walk_at "ev")
  | ((with_reducible apply ev_meth') <;> walk_at "ev")
  | ((with_reducible show List.length _ = _); exact rfl)
  | ((with_reducible show List.length _ + 1 = _); exact rfl)
  | ((with_reducible show List.lookup _ _ = _); exact rfl)
  | ((with_reducible apply et_or') <;> walk_at "ev")
  | ((with_reducible apply et_and') <;> walk_at "ev")
  | ((with_reducible apply ev_own2) <;> walk_at "ev")
  | ((with_reducible apply ev_own1) <;> walk_at "ev")
  | ((with_reducible apply ev_st) <;> walk_at "ev")
  | ((with_reducible apply ev_abs) <;> walk_at "ev")
  | ((with_reducible apply ev_max2) <;> walk_at "ev")
  | ((with_reducible apply ev_divmod) <;> walk_at "ev")
  | ((with_reducible apply ev_intI) <;> walk_at "ev")
  | ((with_reducible apply ev_isN) <;> walk_at "ev")
  | ((with_reducible apply ev_notN) <;> walk_at "ev")
  | ((with_reducible apply ev_eqS) <;> walk_at "ev")
  | ((with_reducible apply ev_neS) <;> walk_at "ev")
  | ((with_reducible apply ev_lenO); exact rfl)
  | ((with_reducible apply ev_len) <;> walk_at "ev")
  | ((with_reducible show D.items _ = _); first | assumption | exact rfl)
  | ((with_reducible show rTableI _ _ _); exact ⟨rfl, rfl⟩)
  | ((with_reducible show _ = false); first | rfl | (simp; done) | (simp; omega))
  | ((with_reducible show _ = true); first | rfl | (simp; done) | (simp; omega))
  | ((with_reducible show 2 = _); exact rfl)
  | ((with_reducible show 1 = _); exact rfl)
  | exact Txt.clTable ‹_› | exact Txt.clFrac ‹_› | exact Txt.clRow ‹_› | exact Txt.clRoot ‹_›
  | exact Txt.nTable_a ‹_› | exact Txt.nTable_b ‹_› | exact Txt.nTable_c ‹_› | exact Txt.nTable_d ‹_› | exact Txt.nFrac_top ‹_› | exact Txt.nFrac_bottom ‹_›
  | exact Txt.nRow_head ‹_› | exact Txt.nRow_loop ‹_› | exact Txt.nRow_kind ‹_› | exact Txt.nRoot_a ‹_› | exact Txt.nRoot_b ‹_› | exact Txt.nRoot_c ‹_› | exact Txt.nRoot_disc ‹_›
  | ((with_reducible apply Bd.cm) <;> first | walk_at "bd" | omega)
  | ((with_reducible show _ ≤ _); simp only [List.length_cons, List.length_nil]; omega)
  | ((with_reducible intro _); walk_at "ev")
  | skip)
local macro_rules | `(tactic| walk_at "set") => `(tactic| ((with_reducible apply xs_set) <;> walk_at "ev"))
local macro_rules | `(tactic| walk_at "ret") => `(tactic| ((with_reducible apply x_ret) <;> walk_at "ev"))
local macro_rules | `(tactic| walk_at "as4") => `(tactic| ((with_reducible (first | apply xs_as4 | apply xl_as4)) <;> walk_at "ev"))
local macro_rules | `(tactic| walk_at "as3") => `(tactic| ((with_reducible (first | apply xs_as3 | apply xl_as3)) <;> walk_at "ev"))
local macro_rules | `(tactic| walk_at "as2") => `(tactic| ((with_reducible (first | apply xs_as2 | apply xl_as2)) <;> walk_at "ev"))
local macro_rules | `(tactic| walk_at "par") => `(tactic| ((with_reducible (first | apply xs_par | apply x_par)) <;> walk_at "ev"))
local macro_rules | `(tactic| walk_at "fld") => `(tactic| ((with_reducible (first | apply xs_fld | apply x_fld)) <;> first | exact rfl | decide | walk_at "ev"))
local macro_rules | `(tactic| walk_at "guard") => `(tactic| ((with_reducible apply xs_guard) <;> walk_at "ev"))
local macro_rules | `(tactic| walk_at "skip") => `(tactic| ((with_reducible apply xs_skip) <;> walk_at "ev"))
local macro_rules | `(tactic| walk_at "take") => `(tactic| ((with_reducible apply xs_take) <;> walk_at "ev"))
local macro_rules | `(tactic| walk_at "clean") => `(tactic| try simp only [cxK, cxK', asnL, List.length_cons, List.length_nil, Nat.zero_add, Nat.reduceAdd])
local macro_rules | `(tactic| walk_at "ev") => `(tactic| first
  | ((with_reducible apply ev_ix) <;> walk_at "ev")
  | ((with_reducible show atI _ _ = _); first | assumption | exact rfl))
section
variable {P : Program} {w : World} {K : Frag} {mg : Str → Option Value} {base : Heap}
inductive rLaw : List D → D → Prop
  | mk (ns : List Int) (h : ns.length ≤ 63) : rLaw [.scr ns] (.bl true)
/-- what is drawn -/
theorem lHead_ok (p : List Int) : lHead p ≠ [] ∧ Gd.Pos (lHead p).tail ∧ (lHead p).length ≤ 5 ∧ ∀ x ∈ lHead p, Bd 4 x := by
  have h0 : 0 ≤ (lH0 p).1 ∧ (lH0 p).1 < 10 := draw_lt p (show (0 : Int) < 10 by decide)
  have h1 : 0 ≤ (lHn p).1 ∧ (lHn p).1 < 5 := draw_lt (lH0 p).2 (show (0 : Int) < 5 by decide)
  have hr := turnsN_rng (lHn p).2 (lHn p).1.toNat
  have hl := turnsN_len (lHn p).2 (lHn p).1.toNat
  refine ⟨by unfold lHead; simp, fun t ht => (hr t ht).1, ?_, fun x hx => ?_⟩
  · show (lHs p).1.length + 1 ≤ 5
    unfold lHs; rw [hl]; omega
  · rcases List.mem_cons.mp hx with h | h
    · subst h; unfold Bd; omega
    · have := hr x h
      unfold Bd; omega
theorem lLoop_ok (p : List Int) : lLoop p ≠ [] ∧ Gd.Pos (lLoop p) ∧ (lLoop p).length ≤ 4 ∧ ∀ x ∈ lLoop p, Bd 105 x := by
  have h1 : 0 ≤ (lLn p).1 ∧ (lLn p).1 < 4 := draw_lt (lL0 p).2 (show (0 : Int) < 4 by decide)
  have hr := turnsN_rng (lLn p).2 (lLn p).1.toNat
  have hl := turnsN_len (lLn p).2 (lLn p).1.toNat
  have h0 := turn1_rng (lHs p).2
  have b0 : Bd 4 (lL0 p).1 := by unfold lL0 Bd; omega
  have bs : ∀ x ∈ (lLs p).1, Bd 105 x := fun x hx => (show Bd 4 x by have := hr x hx; unfold Bd; omega).le (by decide)
  have ps : ∀ x ∈ (lLs p).1, 1 ≤ x := fun x hx => (hr x hx).1
  have ls : (lLs p).1.length ≤ 3 := by unfold lLs; rw [hl]; omega
  have gn := grN_nn (lG p).2 2
  have gb : Bd 104 (great (lG p).2).1 := grN_bd (lG p).2 2
  have p0 : 1 ≤ (lL0 p).1 := h0.1
  unfold lLoop
  split
  · refine ⟨by simp, fun t ht => ?_, by rw [List.length_cons]; omega, fun x hx => ?_⟩
    · rcases List.mem_cons.mp ht with h | h
      · subst h
        have : 0 ≤ (great (lG p).2).1 := gn
        omega
      · exact ps t h
    · rcases List.mem_cons.mp hx with h | h
      · subst h; exact (b0.le (by decide)).addm gb
      · exact bs x h
  · refine ⟨by simp, fun t ht => ?_, by rw [List.length_cons]; omega, fun x hx => ?_⟩
    · rcases List.mem_cons.mp ht with h | h
      · subst h; exact p0
      · exact ps t h
    · rcases List.mem_cons.mp hx with h | h
      · subst h; exact b0.le (by decide)
      · exact bs x h
/-- the law's own row of turns -/
theorem law_turns {f r : List Int} (r0 : r ≠ []) (m : Nat) : (f ++ (List.replicate (2 * m) r).flatten).take (2 * m + 2) = (List.range (min (f.length + r.length * (2 * m)) (2 * m + 2))).map (tin f r) := by
  apply List.ext_getElem
  · rw [List.length_take, List.length_append, rep_len, List.length_map, List.length_range, Nat.min_comm]
  · intro i h1 h2
    rw [List.length_map, List.length_range] at h2
    rw [List.getElem_take, List.getElem_map, List.getElem_range]
    unfold tin
    rw [List.getElem_append]
    split
    · rename_i q
      rw [List.getD_eq_getElem?_getD, List.getElem?_eq_getElem q]; rfl
    · rename_i q
      have hlt : i - f.length < r.length * (2 * m) := by omega
      have e := rep_get (t := r) (2 * m) (i - f.length) hlt
      have e2 : ((i : Int) - f.length) = ((i - f.length : Nat) : Int) := by omega
      rw [e2, Gd.rt_nat r0, ← e, List.getD_eq_getElem?_getD, List.getElem?_eq_getElem (by rw [rep_len]; exact hlt)]; rfl
theorem law_points (f r : List Int) (N : Nat) : (List.range ((List.range N).map (tin f r)).length).map (ptOf ((List.range N).map (tin f r))) = (List.range N).map fun j => dPt f r (j + 1) := by
  rw [List.length_map, List.length_range]
  apply List.map_congr_left
  intro j hj
  rw [List.mem_range] at hj
  have e : ((List.range N).map (tin f r)).take (j + 1) = (List.range (j + 1)).map (tin f r) := by
    rw [← List.map_take, List.take_range, Nat.min_eq_left (by omega)]
  show D.tup [.int (Gd.prod (((List.range N).map (tin f r)).take (j + 1))).c, .int (Gd.prod (((List.range N).map (tin f r)).take (j + 1))).a] = _
  rw [e]; rfl
theorem sail_pts (f r : List Int) (k n : Nat) : Pts (sailD f r k n) := fun d hd => by
  unfold sailD at hd
  rw [List.mem_map] at hd
  obtain ⟨i, _, rfl⟩ := hd
  exact ⟨_, _, rfl⟩
theorem rep_lenD {t : List D} (k : Nat) : ((List.replicate k t).flatten).length = t.length * k := by
  rw [List.length_flatten, List.map_replicate, List.sum_replicate_nat, Nat.mul_comm]
theorem cutD_takeAny {ds : List D} {n : Nat} : DL.cutD ds none (some (n : Int)) = ds.take n := by
  unfold DL.cutD
  rw [HT.sIx_none, HT.sIx_nat, List.drop_zero, Nat.sub_zero]
  rcases Nat.le_total n ds.length with h | h
  · rw [Nat.min_eq_left h]
  · rw [Nat.min_eq_right h, List.take_of_length_le (Nat.le_refl _), List.take_of_length_le h]
theorem sail_len (f r : List Int) (k n : Nat) : (sailD f r k n).length = n := by simp [sailD]
theorem above_eq (f r : List Int) (m : Nat) : [D.tup [.int 0, .int 1]] ++ (List.range m).map (fun i => dPt f r (2 * i + 2)) = sailD f r 0 (m + 1) := by
  unfold sailD
  rw [List.range_succ_eq_map, List.map_cons, List.map_map]
  have e0 : dPt f r (0 + 2 * 0) = D.tup [.int 0, .int 1] := rfl
  rw [e0]
  show D.tup [.int 0, .int 1] :: _ = _
  congr 1
  apply List.map_congr_left
  intro i _
  show dPt f r (2 * i + 2) = dPt f r (0 + 2 * (i + 1))
  rw [show 0 + 2 * (i + 1) = 2 * i + 2 by omega]
theorem all_own {Δ : DE} (h : Δ.all (fun s => !s.own) = true) : ∀ (j : Nat) (s : Sl), Δ[j]? = some s → s.own = false := fun j s hj => by
  have := List.all_eq_true.mp h s (List.mem_of_getElem? hj)
  simpa using this
abbrev N_law : List Str := [("script" : Str), ("pool" : Str), ("head" : Str), ("loop" : Str), ("front" : Str), ("ring" : Str), ("start" : Str), ("size" : Str), ("many" : Str), ("points" : Str), ("row" : Str), ("kept" : Str), ("keep" : Str), ("below" : Str), ("above" : Str), ("sails" : Str), ("k" : Str), ("turn" : Str)]
theorem sc_law : FnScope N_law [("script" : Str)] (defScope s_law) := ⟨rfl, rfl, rfl, by decide +kernel, rfl, by decide +kernel, by decide +kernel⟩
theorem ok_law {f : Addr} {fd : FuncData} (F : FunD K "law" "law" (defArgs s_law) (defBody s_law) (defScope s_law) [] [] f fd) (hb : Binds K fd [("script" : Str)] []) (T : Txt K mg) (h__law_pool : Fn P w K mg base "_law_pool" 1 (spL K 1 rPool)) (h__law_looped : Fn P w K mg base "_law_looped" 3 (spM K 0 rLooped)) (h__law_short : Fn P w K mg base "_law_short" 1 (spD K 2 rShort)) (h__law_points : Fn P w K mg base "_law_points" 1 (spD K 1 rPoints)) (h_Rowd_initd : Mkr P w K mg base "Row" (cRow K) 4 (spI K (cRow K) 2 rRowI)) (h_keeper : Fn P w K mg base "keeper" 7 (spD K 1 (rKeeper K))) (h_root_of : Fn P w K mg base "root_of" 5 (spD K 1 (rRootOf K))) (h__law_keeper : Fn P w K mg base "_law_keeper" 2 (spD K 2 rLKeeper)) (h_Table_det : Me P w K mg base (cTable K) "det" 1 (spD K 1 (rTDet K))) (h_Table_trace : Me P w K mg base (cTable K) "trace" 1 (spD K 1 (rTTrace K))) (h__law_numbers : Fn P w K mg base "_law_numbers" 2 (spD K 1 (rNumbers K))) (h_sail : Fn P w K mg base "sail" 5 (spL K 3 (rSail K))) (h__law_are_points : Fn P w K mg base "_law_are_points" 2 (spD K 2 rAre)) (h__law_follow : Fn P w K mg base "_law_follow" 7 (spD K 5 (rFollow K))) (h__law_carries : Fn P w K mg base "_law_carries" 6 (spD K 4 (rCarries K))) : FnOk P w K mg base CX0 8 f fd [("script" : Str)] (spD K 1 rLaw) := by
  have B : FnOk P w K mg base CX0 8 f fd [("script" : Str)] (spD K 1 rLaw) := by
    refine F.ok sc_law (fun vs H Q E h => h.1) (fun cdv A outer s H vs Q E hr h => ?_)
    have hr1 : Room 1 _ := hr.mono (by decide)
    have hr2 : Room 2 _ := hr.mono (by decide)
    have hr3 : Room 3 _ := hr.mono (by decide)
    have hr4 : Room 4 _ := hr.mono (by decide)
    have hr5 : Room 5 _ := hr.mono (by decide)
    have hr6 : Room 6 _ := hr.mono (by decide)
    have hr7 : Room 7 _ := hr.mono (by decide)
    have hu := hr.units
    have hu1 : _ + 1 < cLine := Nat.lt_of_le_of_lt (Nat.add_le_add_left (by decide : 1 ≤ 64) _) hr.units
    have nd := sc_law.nd
    refine ⟨_, PSs.nox (pss_cons (ps_set (i := 1) nd rfl (Or.inl rfl) (pe_fn h__law_pool hr1 rfl (pa_cons (pv 0) pa_nil)))
      (pss_cons (ps_asg (pe_fn h__law_looped hr3 rfl (pa_cons (pv 1) pa_nil)) (pg_tup rfl (pgs_cons (pg_name (i := 2) nd rfl (Or.inl rfl)) (pgs_cons (pg_name (i := 3) nd rfl (Or.inl rfl)) pgs_nil))))
      (pss_cons (ps_asg (pe_fn h__law_short hr1 rfl (pa_cons (pv 2) (pa_cons (pv 3) pa_nil))) (pg_tup rfl (pgs_cons (pg_name (i := 4) nd rfl (Or.inl rfl)) (pgs_cons (pg_name (i := 5) nd rfl (Or.inl rfl)) pgs_nil))))
      (pss_cons (ps_set (i := 6) nd rfl (Or.inl rfl) (pe_op op_sub (pe_callB call_lenA (by rfl) T.b_len (by decide +kernel) (pa_cons (pv 4) pa_nil)) pe_int))
      (pss_cons (ps_set (i := 7) nd rfl (Or.inl rfl) (pe_callB call_lenA (by rfl) T.b_len (by decide +kernel) (pa_cons (pv 5) pa_nil)))
      (pss_cons (ps_set (i := 8) nd rfl (Or.inl rfl) (pe_op op_add (pe_op op_fdivW (pe_op op_add (pe_op op_add (pv 6) pe_int) (pe_op op_mulW pe_int (pv 7))) pe_int) pe_int))
      (pss_cons (ps_set (i := 9) nd rfl (Or.inr rfl) (pe_fn h__law_points hr1 rfl (pa_cons (pe_slice sl_any (pe_op op_cat (pv 4) (pe_op op_rep (pv 5) (pe_op op_mulW pe_int (pv 8)))) po_none (po_some (pe_op op_add (pe_op op_mulW pe_int (pv 8)) pe_int))) pa_nil)))
      (pss_cons (ps_set (i := 10) nd rfl (Or.inl rfl) (pe_mkr h_Rowd_initd hr5 rfl (pa_cons (pe_callTy call_listA (by rfl) T.b_list (by decide +kernel) (pa_cons (pv 2) pa_nil)) (pa_cons (pe_lc (own := [(("turn" : Str), 17)]) rfl nd (pi_seq (pv 3)) (blkOk_by (N := N_law) (sc := defScope s_law) (by decide +kernel)) (fun _ _ _ _ _ => (pg_name (i := 17) nd rfl (Or.inl rfl))) (fun _ _ _ _ _ => pts_nil) (fun _ _ _ _ _ => (pe_tup (pa_cons (pv 17) (pa_cons pe_int pa_nil))))) pa_nil))))
      (pss_cons (ps_set (i := 11) nd rfl (Or.inl rfl) (pe_fn h_keeper hr7 rfl (pa_cons (pe_fn h_root_of hr5 rfl (pa_cons (pv 10) pa_nil)) pa_nil)))
      (pss_cons (ps_set (i := 12) nd rfl (Or.inl rfl) (pe_fn h__law_keeper hr2 rfl (pa_cons (pv 4) (pa_cons (pv 5) pa_nil))))
      (pss_cons (ps_if (PW.pt (pw_or (pt_cmpR (op_neD hu) (pe_fn h__law_numbers hr2 rfl (pa_cons (pv 11) pa_nil)) (pv 12) (nomark _)) (pw_or (pt_cmpR op_ne (pe_me0 h_Table_trace hr1 T.clTable (pv 11)) (pe_op op_add (pe_ix (show IxR _ (rIx K) from ix_seq) (pv 12) pe_int (fun _ _ => rfl)) (pe_ix (show IxR _ (rIx K) from ix_seq) (pv 12) pe_int (fun _ _ => rfl))) (nomark _)) (pw_or1 (pt_cmpR op_ne (pe_me0 h_Table_det hr1 T.clTable (pv 11)) (pe_op op_sub pe_int (pe_op op_mulW pe_int (pe_op op_mod (pv 7) pe_int))) (nomark _)))))) (pss_one (ps_ret pe_bl)) pss_nil)
      (pss_cons (ps_setLc (i := 13) (own := [(("k" : Str), 16)]) rfl nd rfl rfl (sw_true rfl rfl rfl (by decide +kernel)) (pi_range1 rfl T.b_range (pa_cons (pv 8) pa_nil)) (blkOk_by (N := N_law) (sc := defScope s_law) (by decide +kernel)) (fun _ _ _ _ _ => (pg_name (i := 16) nd rfl (Or.inl rfl))) (fun _ _ _ _ _ => pts_nil) (fun _ _ _ _ _ => (pe_ix (show IxR _ (rIx K) from ix_seq) (pv 9) (pe_op op_mulW pe_int (pv 16)) (fun _ _ => rfl))))
      (pss_cons (ps_set (i := 14) nd rfl (Or.inl rfl) (pe_op op_cat (pe_lst (pa_cons (pe_tup (pa_cons pe_int (pa_cons pe_int pa_nil))) pa_nil)) (pe_lc (own := [(("k" : Str), 16)]) rfl nd (pi_range1 rfl T.b_range (pa_cons (pv 8) pa_nil)) (blkOk_by (N := N_law) (sc := defScope s_law) (by decide +kernel)) (fun _ _ _ _ _ => (pg_name (i := 16) nd rfl (Or.inl rfl))) (fun _ _ _ _ _ => pts_nil) (fun _ _ _ _ _ => (pe_ix (show IxR _ (rIx K) from ix_seq) (pv 9) (pe_op op_add (pe_op op_mulW pe_int (pv 16)) pe_int) (fun _ _ => rfl))))))
      (pss_cons (ps_set (i := 15) nd rfl (Or.inl rfl) (pe_lst (pa_cons (pe_fn h_sail hr5 rfl (pa_cons (pv 10) (pa_cons pe_str (pa_cons (pv 8) pa_nil)))) (pa_cons (pe_fn h_sail hr5 rfl (pa_cons (pv 10) (pa_cons pe_str (pa_cons (pe_op op_add (pv 8) pe_int) pa_nil)))) pa_nil))))
      (pss_cons (ps_if (PW.pt (pw_or (pt_not (pt_val (pe_fn h__law_are_points hr2 rfl (pa_cons (pe_ix (show IxR _ (rIx K) from ix_seq) (pv 15) pe_int (fun _ _ => rfl)) (pa_cons (pv 13) pa_nil))))) (pw_or1 (pt_not (pt_val (pe_fn h__law_are_points hr2 rfl (pa_cons (pe_ix (show IxR _ (rIx K) from ix_seq) (pv 15) pe_int (fun _ _ => rfl)) (pa_cons (pv 14) pa_nil)))))))) (pss_one (ps_ret pe_bl)) pss_nil)
      (pss_cons (ps_if (PW.pt (pw_or (pt_not (pt_val (pe_fn h__law_carries hr6 rfl (pa_cons (pv 11) (pa_cons (pv 15) (pa_cons (pv 6) (pa_cons (pv 7) pa_nil))))))) (pw_or1 (pt_not (pt_val (pe_fn h__law_follow hr7 rfl (pa_cons (pv 10) (pa_cons (pv 11) (pa_cons (pv 9) (pa_cons (pv 6) (pa_cons (pv 7) pa_nil))))))))))) (pss_one (ps_ret pe_bl)) pss_nil)
      (pss_cons (ps_expr (pe_bm0 PySem.F.plainAttrs_list PySem.F.slot_list_pop PySem.F.type_list_pop mt_pop (pe_ix (show IxR _ (rIx K) from ix_seq) (pv 15) pe_int (fun _ _ => rfl))))
      (pss_cons (ps_expr (pe_bm PySem.F.plainAttrs_list PySem.F.slot_list_append PySem.F.type_list_append mt_append (pe_ix (show IxR _ (rIx K) from ix_seq) (pv 15) pe_int (fun _ _ => rfl)) (pa_cons (pe_tup (pa_cons pe_int (pa_cons pe_int pa_nil))) pa_nil)))
      (pss_one (ps_ret (pe_and (pe_cmpR (op_eqD hu) (pe_fn h_sail hr5 rfl (pa_cons (pv 10) (pa_cons pe_str (pa_cons (pv 8) pa_nil)))) (pv 13) (nomark _)) (pe_one (pe_cmpR (op_eqD hu) (pe_fn h_sail hr5 rfl (pa_cons (pv 10) (pa_cons pe_str (pa_cons (pe_op op_add (pv 8) pe_int) pa_nil)))) (pv 14) (nomark _)))))))))))))))))))))))), enter h (by decide) ?_⟩
    rintro _ _ ⟨ns, hl⟩ _
    left
    walk_at "clean"
    show ExD K _ [.fr (.scr ns), .un, .un, .un, .un, .un, .un, .un, .un, .un, .un, .un, .un, .un, .un, .un, .un, .un] _
    have hpn := poolOf_ne ns
    have hpz : (poolOf ns).length ≤ 1000 := by simp [poolOf]; omega
    obtain ⟨hh0, hhp, hhz, hhb⟩ := lHead_ok (poolOf ns)
    obtain ⟨hl0, hlp, hlz, hlb⟩ := lLoop_ok (poolOf ns)
    generalize hp : poolOf ns = p at *
    generalize hh : lHead p = h at *
    generalize hlo : lLoop p = l at *
    have hone := Gd.oneF hh0 hl0
    have hf0 := hone.f0
    have hr0 := hone.r0
    have hfz : (Gd.front h l).length ≤ 5 := Nat.le_trans Gd.front_len hhz
    have hrz : (Gd.ring h l).length ≤ 4 := Nat.le_trans Gd.ring_len hlz
    have hft : Gd.Pos (Gd.front h l).tail := fun t ht => hhp t (Gd.front_tail t ht)
    have hrp : Gd.Pos (Gd.ring h l) := fun t ht => hlp t (Gd.ring_mem hl0 t ht)
    have hfb : ∀ x ∈ Gd.front h l, Bd 4 x := fun x hx => hhb x (Gd.front_mem x hx)
    have hrb : ∀ x ∈ Gd.ring h l, Bd 105 x := fun x hx => hlb x (Gd.ring_mem hl0 x hx)
    obtain ⟨q, hroot, hrow⟩ := root_row (K := K) hone hft hrp hfz hrz hfb hrb
    have hrowI : rRowI [.lst (dI h), .lst (dP l)] nW [.tup (dI (Gd.front h l)), .tup (dP (Gd.ring h l)), .str ("looped" : Str)] := ⟨_, _, h, l, 105, rfl, rfl, rfl, hh0, hl0, hhp, hlp, by omega, by omega, hlb, by omega, rfl, rfl⟩
    have hshort := rShort.mk h l hh0 hl0 (by omega) (by omega)
    generalize Gd.front h l = f at *
    generalize Gd.ring h l = r at *
    have hfl : 0 < f.length := List.length_pos_iff.mpr hf0
    have hrl : 0 < r.length := List.length_pos_iff.mpr hr0
    have hfb' : ∀ x ∈ f, Bd 105 x := fun x hx => (hfb x hx).le (by decide)
    have hO : RowOk f r 105 := ⟨hf0, hr0, by omega, by omega, hfb', hrb⟩
    have hcarry := kpr_carry hf0 hr0
    have hkeep := rKeeper.mk (K := K) q f r 105 hrow hO (by omega) (by omega)
    have hlk := rLKeeper.mk f r 105 hfb' hrb (by omega) (by omega) (by omega)
    rw [← Gd.prod_append] at hlk
    have bx : BdT 1500 (kpr f r) := by
      have b1 : BdT 1000 (Gd.prod (f ++ r)) := (BdT.prod (l := 105) fun t ht => (List.mem_append.mp ht).elim (hfb' t) (hrb t)).le (by rw [List.length_append]; omega)
      have b2 : BdT 26 (Gd.prod f) := (BdT.prod hfb).le (by omega)
      exact (b1.mul b2.inv).le (by omega)
    have hkeep' : rKeeper K [dR K q] (dT K (kpr f r)) := hkeep
    have hlk' : rLKeeper [.lst (dI f), .lst (dI r)] (tT (kpr f r)) := hlk
    generalize hx : kpr f r = x at *
    have hdet : x.det = Gd.sgn r.length := by rw [← hx, kpr_det]
    have htd : rTDet K [dT K x] (.int x.det) := .mk x 1500 bx (by omega)
    -- the numbers
    generalize hm : ((f.length - 1) + 10 + 2 * r.length) / 2 + 1 = m
    have hm1 : (f.length - 1) + 10 + 2 * r.length + 1 ≤ 2 * m := by omega
    have hm2 : m ≤ 12 := by omega
    have hN : 2 * m + 1 ≤ min (f.length + r.length * (2 * m)) (2 * m + 2) := by
      have : 1 * (2 * m) ≤ r.length * (2 * m) := Nat.mul_le_mul_right _ hrl
      omega
    have hN2 : min (f.length + r.length * (2 * m)) (2 * m + 2) ≤ 26 := by omega
    have hpts : rPoints [.lst (dI ((List.range (min (f.length + r.length * (2 * m)) (2 * m + 2))).map (tin f r)))] (.lst ((List.range (min (f.length + r.length * (2 * m)) (2 * m + 2))).map fun j => dPt f r (j + 1))) := by
      have := rPoints.mk (.lst (dI ((List.range (min (f.length + r.length * (2 * m)) (2 * m + 2))).map (tin f r)))) ((List.range (min (f.length + r.length * (2 * m)) (2 * m + 2))).map (tin f r)) 105 rfl (fun t ht => by
        rw [List.mem_map] at ht
        obtain ⟨i, _, rfl⟩ := ht
        exact tin_bd hO i) (by rw [List.length_map, List.length_range]; omega) (by rw [List.length_map, List.length_range]; omega)
      rwa [law_points] at this
    have hturns := law_turns (f := f) hr0 m
    have hrepl : r.length * (2 * m) ≤ 4 * 24 := Nat.mul_le_mul hrz (by omega)
    generalize min (f.length + r.length * (2 * m)) (2 * m + 2) = N at *
    have hfollow := rFollow.mk (K := K) f r x 105 1500 (f.length - 1) r.length N hcarry hO hft hrp bx (by omega) (by omega) (by omega) (by omega)
    have hcarries := rCarries.mk (K := K) f r x 105 1500 (f.length - 1) r.length m hcarry hO bx (by omega) (by omega) (by omega) (by omega) (by omega) (by omega)
    have hsb : rSail K [dW K f r, .str ("below" : Str), .int m] (sailD f r 1 m) := .mk f r 105 _ 1 m .below hO (by omega) (by omega)
    have hsa : rSail K [dW K f r, .str ("above" : Str), .int ((m + 1 : Nat) : Int)] (sailD f r 0 (m + 1)) := .mk f r 105 _ 0 (m + 1) .above hO (by omega) (by omega)
    have bm : Bd 20 (m : Int) := by unfold Bd; omega
    have bsz : Bd 20 (r.length : Int) := by unfold Bd; omega
    have bmod : Bd 20 ((r.length : Int) % 2) := by unfold Bd; omega
    -- the pool, the row's turns
    refine x_seq (x_setL (i := 1) (ds := dI p) (Δ1 := [.fr (.scr ns), .un, .un, .un, .un, .un, .un, .un, .un, .un, .un, .un, .un, .un, .un, .un, .un, .un]) (el_callL (ds := [.scr ns]) (ea_cons (ev_var rfl) ea_nil) rfl (by rw [← hp]; exact .mk ns hl))) ?_
    dsimp only [List.set]
    have hloop : rLooped (dI p) [] (.tup [.lst (dI h), .lst (dI l)]) (dI (lPool p)) := by
      have := rLooped.mk p hpn hpz
      rwa [hh, hlo] at this
    refine xs_as2 (a := .lst (dI h)) (b := .lst (dI l)) (ev_callM (k := 1) (xs := dI p) (ds := []) (tg := none) ⟨_, rfl, rfl⟩ ea_nil rfl rfl hloop) ?_
    refine x_forget (i := 1) ?_
    dsimp only [List.set]
    with_reducible apply xs_as2
    · walk_at "ev"
      exact hshort
    · dsimp only [List.set]
      with_reducible apply xs_set (d := .int ((f.length - 1 : Nat) : Int))
      · with_reducible apply ev_is
        · walk_at "ev"
        · rw [List.length_map]; congr 1; omega
      · dsimp only [List.set]
        with_reducible apply xs_set (d := .int r.length)
        · with_reducible apply ev_is
          · walk_at "ev"
          · rw [List.length_map]
        · dsimp only [List.set]
          with_reducible apply xs_set (d := .int m)
          · with_reducible apply ev_is
            · walk_at "ev"
              exact Bd.cd Bd.i2 (by omega) (by omega)
            · congr 1; omega
          · dsimp only [List.set]
            with_reducible apply xs_set
            · with_reducible apply ev_call'
              · with_reducible apply ea_cons (d := .lst (dI ((List.range N).map (tin f r))))
                · with_reducible apply ev_l
                  with_reducible apply el_is
                  · with_reducible apply el_sl (ds := dI (f ++ (List.replicate (2 * m) r).flatten))
                    · with_reducible apply ev_l
                      with_reducible apply el_is
                      · with_reducible apply el_cat
                        · walk_at "ev"
                        · with_reducible apply ev_l
                          with_reducible apply el_rep (k := 2 * (m : Int))
                          · walk_at "ev"
                          · walk_at "ev"
                          · omega
                          · omega
                          · have e : (2 * (m : Int)).toNat = 2 * m := by omega
                            rw [e, List.length_map]; omega
                        · have e : (2 * (m : Int)).toNat = 2 * m := by omega
                          rw [e, rep_lenD, List.length_map, List.length_map]; omega
                      · have e : (2 * (m : Int)).toNat = 2 * m := by omega
                        rw [e]
                        simp only [dI, List.map_append, List.map_flatten, List.map_replicate]
                    · exact eo_none
                    · with_reducible apply eo_some
                      walk_at "ev"
                  · have e : 2 * (m : Int) + 2 = ((2 * m + 2 : Nat) : Int) := by omega
                    rw [e, cutD_takeAny, dI, ← List.map_take, hturns]
                · exact ea_nil
              · rfl
              · exact hpts
            · dsimp only [List.set]
              with_reducible apply xs_set (d := dW K f r)
              · with_reducible apply ev_make'
                · with_reducible apply ea_cons (d := .lst (dI h))
                  · with_reducible apply ev_l
                    with_reducible apply el_list
                    · walk_at "ev"
                    · rfl
                  · with_reducible apply ea_cons (d := .lst (dP l))
                    · with_reducible apply ev_l
                      refine el_is (el_lcA (ds := dI l) (Δ0 := [.fr (.scr ns), .un, .fr (.lst (dI h)), .fr (.lst (dI l)), .fr (.lst (dI f)), .fr (.lst (dI r)), .fr (.int ((f.length - 1 : Nat) : Int)), .fr (.int r.length), .fr (.int m), .fr (.lst ((List.range N).map fun j => dPt f r (j + 1))), .un, .un, .un, .un, .un, .un, .un, .un]) (fun i => dPr (l.getD i 0)) (ei_seq (ev_var rfl) rfl) (gn_name (by decide)) gm_name (hnoB rfl) (by simp; omega) ?_) ?_
                      · intro i d hd
                        obtain ⟨t, ht, rfl⟩ := dI_get hd
                        have e : l.getD i 0 = t := by rw [List.getD_eq_getElem?_getD, ht]; rfl
                        rw [e]
                        refine ⟨[.fr (.scr ns), .un, .fr (.lst (dI h)), .fr (.lst (dI l)), .fr (.lst (dI f)), .fr (.lst (dI r)), .fr (.int ((f.length - 1 : Nat) : Int)), .fr (.int r.length), .fr (.int m), .fr (.lst ((List.range N).map fun j => dPt f r (j + 1))), .un, .un, .un, .un, .un, .un, .un, .fr (.int t)], as_name, rfl, ?_⟩
                        walk_at "ev"
                      · rw [List.length_map]
                        apply List.ext_getElem
                        · simp
                        · intro i h1 h2
                          simp only [List.length_map, List.length_range] at h1
                          simp [List.getD_eq_getElem?_getD, h1]
                    · exact ea_nil
                · rfl
                · exact hrowI
              · dsimp only [List.set]
                with_reducible apply xs_set (d := dT K x)
                · with_reducible apply ev_call'
                  · with_reducible apply ea_cons (d := dR K q)
                    · with_reducible apply ev_call'
                      · walk_at "ev"
                      · rfl
                      · exact hroot
                    · exact ea_nil
                  · rfl
                  · exact hkeep'
                · dsimp only [List.set]
                  with_reducible apply xs_set (d := tT x)
                  · walk_at "ev"
                    exact hlk'
                  · dsimp only [List.set]
                    with_reducible apply xs_skip (b := false)
                    · with_reducible apply et_is
                      · with_reducible apply et_or' (a := false)
                        · with_reducible apply et_is
                          · with_reducible apply et_test
                            with_reducible apply ev_neD (x := tT x) (y := tT x)
                            · walk_at "ev"
                              exact rNumbers.mk x
                            · walk_at "ev"
                            · rfl
                            · rfl
                            · exact shaped_tup [_, _, _, _]
                            · exact shaped_tup [_, _, _, _]
                          · rw [eqv_refl.1 (tT x) rfl]; rfl
                        · intro _
                          with_reducible apply et_or' (a := false)
                          · with_reducible apply et_is
                            · walk_at "ev"
                              exact rTTrace.mk x
                            · simp [Gd.Tb.trace]
                          · intro _
                            with_reducible apply et_is (b' := false)
                            · walk_at "ev"
                              all_goals first | exact htd | decide
                            · rw [hdet]
                              unfold Gd.sgn
                              rw [Int.natCast_emod]
                              simp
                      · rfl
                    · rfl
                    · have hpt : ∀ j : Nat, j < N → atI ((List.range N).map fun j => dPt f r (j + 1)) (j : Int) = some (dPt f r (j + 1)) := fun j hj => by
                        apply atI_nat
                        rw [List.getElem?_map, List.getElem?_range hj]; rfl
                      have comp : ∀ (s13 s14 : Sl) (te : TE) (F : Nat → D), s13.own = false → s14.own = false → (∀ i : Nat, i < m → EvD K te [.fr (.scr ns), .un, .fr (.lst (dI h)), .fr (.lst (dI l)), .fr (.lst (dI f)), .fr (.lst (dI r)), .fr (.int ((f.length - 1 : Nat) : Int)), .fr (.int r.length), .fr (.int m), .fr (.lst ((List.range N).map fun j => dPt f r (j + 1))), .fr (dW K f r), .fr (dT K x), .fr (tT x), s13, s14, .un, .fr (.int i), .un] (F i) [.fr (.scr ns), .un, .fr (.lst (dI h)), .fr (.lst (dI l)), .fr (.lst (dI f)), .fr (.lst (dI r)), .fr (.int ((f.length - 1 : Nat) : Int)), .fr (.int r.length), .fr (.int m), .fr (.lst ((List.range N).map fun j => dPt f r (j + 1))), .fr (dW K f r), .fr (dT K x), .fr (tT x), s13, s14, .un, .fr (.int i), .un]) →
                          EvL K (tLc (iRng1 (tCons (tVar 8) tNil)) (gName 16) tYes te (List.map (fun x => x.snd) [(("k" : Str), 16)])) [.fr (.scr ns), .un, .fr (.lst (dI h)), .fr (.lst (dI l)), .fr (.lst (dI f)), .fr (.lst (dI r)), .fr (.int ((f.length - 1 : Nat) : Int)), .fr (.int r.length), .fr (.int m), .fr (.lst ((List.range N).map fun j => dPt f r (j + 1))), .fr (dW K f r), .fr (dT K x), .fr (tT x), s13, s14, .un, .un, .un] ((List.range m).map F) [.fr (.scr ns), .un, .fr (.lst (dI h)), .fr (.lst (dI l)), .fr (.lst (dI f)), .fr (.lst (dI r)), .fr (.int ((f.length - 1 : Nat) : Int)), .fr (.int r.length), .fr (.int m), .fr (.lst ((List.range N).map fun j => dPt f r (j + 1))), .fr (dW K f r), .fr (dT K x), .fr (tT x), s13, s14, .un, .un, .un] := fun s13 s14 te F _ _ hte => by
                        refine el_is (el_lcA F (ei_range1 (n := (m : Int)) (ea_cons (ev_var rfl) ea_nil) (by omega) (by omega)) (gn_name (by decide)) gm_name (hnoB rfl) (by simp; omega) ?_) (by simp)
                        intro i d hd
                        obtain ⟨hi, rfl⟩ := range_get hd
                        simp only [Int.toNat_natCast] at hi
                        exact ⟨_, as_name, rfl, hte i hi⟩
                      with_reducible apply xs_setL (ds := sailD f r 1 m)
                      · refine comp .un .un _ (fun i => dPt f r (1 + 2 * i)) rfl rfl fun i hi => ?_
                        have bi : Bd 20 (i : Int) := by unfold Bd; omega
                        with_reducible apply ev_ix (i := ((2 * i : Nat) : Int))
                        · walk_at "ev"
                        · with_reducible apply ev_is
                          · walk_at "ev"
                          · simp
                        · rfl
                        · rw [hpt _ (by omega), Nat.add_comm]
                      · dsimp only [List.set]
                        refine x_freeze (i := 13) rfl ?_
                        dsimp only [List.set]
                        with_reducible apply xs_setL (ds := sailD f r 0 (m + 1))
                        · with_reducible apply el_is
                          · with_reducible apply el_cat
                            · with_reducible apply ev_l
                              exact el_lst (ea_cons (ev_tup (ea_cons ev_int (ea_cons ev_int ea_nil)) (by simp)) ea_nil) (by simp)
                            · with_reducible apply ev_l
                              refine comp (.fr (.lst (sailD f r 1 m))) .un _ (fun i => dPt f r (2 * i + 2)) rfl rfl fun i hi => ?_
                              have bi : Bd 20 (i : Int) := by unfold Bd; omega
                              with_reducible apply ev_ix (i := ((2 * i + 1 : Nat) : Int))
                              · walk_at "ev"
                              · with_reducible apply ev_is
                                · walk_at "ev"
                                · simp
                              · rfl
                              · rw [hpt _ (by omega)]
                            · simp; omega
                          · exact above_eq f r m
                        · dsimp only [List.set]
                          refine x_freeze (i := 14) rfl ?_
                          dsimp only [List.set]
                          refine xs_twoLists (ds1 := [dW K f r, .str ("below" : Str), .int m]) (ds2 := [dW K f r, .str ("above" : Str), .int ((m + 1 : Nat) : Int)]) (A := sailD f r 1 m) (B := sailD f r 0 (m + 1)) (all_own rfl) (by simp) ?_ rfl hsb ?_ rfl hsa ?_ (by rw [sail_len]; omega) ?_ ?_ ?_
                          · walk_at "ev"
                          · with_reducible apply ea_is
                            · walk_at "ev"
                            · rfl
                          · intro e
                            have := congrArg List.length e
                            rw [sail_len] at this
                            simp at this; omega
                          · dsimp only [List.set]
                            refine et_is (et_or' (a := false) (b := false) (et_is (et_not (et_B (ev_call' (ds := [.lst (sailD f r 1 m), .lst (sailD f r 1 m)]) ?_ rfl (rAre.mk _ (sail_pts f r 1 m) (by rw [sail_len]; omega))))) rfl) fun _ => et_is (et_not (et_B (ev_call' (ds := [.lst (sailD f r 0 (m + 1)), .lst (sailD f r 0 (m + 1))]) ?_ rfl (rAre.mk _ (sail_pts f r 0 (m + 1)) (by rw [sail_len]; omega))))) rfl) rfl
                            · walk_at "ev"
                            · walk_at "ev"
                          · dsimp only [List.set]
                            refine et_is (et_or' (a := false) (b := false) (et_is (et_not (et_B (ev_call' (ds := [dT K x, sailsD f r m, .int ((f.length - 1 : Nat) : Int), .int r.length]) ?_ rfl hcarries))) rfl) fun _ => et_is (et_not (et_B (ev_call' (ds := [dW K f r, dT K x, .lst ((List.range N).map fun j => dPt f r (j + 1)), .int ((f.length - 1 : Nat) : Int), .int r.length]) ?_ rfl hfollow))) rfl) rfl
                            · walk_at "ev"
                            · walk_at "ev"
                          · dsimp only [List.set]
                            with_reducible apply x_ret
                            refine ev_is (ev_andV (a := true) (b := true) (ev_is (ev_eqD (x := .lst (sailD f r 1 m)) (y := .lst (sailD f r 1 m)) (ev_l (el_callL (ds := [dW K f r, .str ("below" : Str), .int m]) ?_ rfl hsb)) (ev_var rfl) (pts_noIns (sail_pts f r 1 m)) (pts_noIns (sail_pts f r 1 m)) (pts_shaped (sail_pts f r 1 m)) (pts_shaped (sail_pts f r 1 m))) ?_) fun _ => ev_is (ev_eqD (x := .lst (sailD f r 0 (m + 1))) (y := .lst (sailD f r 0 (m + 1))) (ev_l (el_callL (ds := [dW K f r, .str ("above" : Str), .int ((m + 1 : Nat) : Int)]) ?_ rfl hsa)) (ev_var rfl) (pts_noIns (sail_pts f r 0 (m + 1))) (pts_noIns (sail_pts f r 0 (m + 1))) (pts_shaped (sail_pts f r 0 (m + 1))) (pts_shaped (sail_pts f r 0 (m + 1)))) ?_) rfl
                            · walk_at "ev"
                            · rw [eqv_refl.1 (.lst (sailD f r 1 m)) (pts_noIns (sail_pts f r 1 m))]
                            · with_reducible apply ea_is
                              · walk_at "ev"
                              · rfl
                            · rw [eqv_refl.1 (.lst (sailD f r 0 (m + 1))) (pts_noIns (sail_pts f r 0 (m + 1)))]
  exact B
end
end Gw


set_option Elab.async false
set_option linter.all false
set_option maxRecDepth 100000
set_option maxHeartbeats 4000000
namespace Gw
open PySem PySem.Spec PyProof.Rows L2 DL
theorem txt_ok {K : Frag} {h : Heap} {mg : Str → Option Value} (X : K.In h) (G : h.Ns mainGlobals mg) (c : SaysX K) : Txt K mg where
  b_len := He.free_ok X G (c.fact 0 rfl)
  b_range := He.free_ok X G (c.fact 1 rfl)
  b_int := He.free_ok X G (c.fact 2 rfl)
  b_bool := He.free_ok X G (c.fact 3 rfl)
  b_list := He.free_ok X G (c.fact 4 rfl)
  b_tuple := He.free_ok X G (c.fact 5 rfl)
  b_abs := He.free_ok X G (c.fact 6 rfl)
  b_max := He.free_ok X G (c.fact 7 rfl)
  b_divmod := He.free_ok X G (c.fact 8 rfl)
  b_isinstance := He.free_ok X G (c.fact 9 rfl)
  f_gcd := PySem.W.mg_of X G (He.eqO_ok (c.fact 10 rfl))
  f_isqrt := PySem.W.mg_of X G (He.eqO_ok (c.fact 11 rfl))
  g_MOST_EXPONENT_table := He.int_ok X G (c.fact 12 rfl)
  g_MOST_TURNS := He.int_ok X G (c.fact 13 rfl)
  g_LIMIT := He.int_ok X G (c.fact 14 rfl)
  g_MOST_POINTS := He.int_ok X G (c.fact 15 rfl)
  mgTable := He.glo_ok X G (c.fact 16 rfl)
  clTable := He.cls_ok (c.fact 17 rfl)
  mgFrac := He.glo_ok X G (c.fact 18 rfl)
  clFrac := He.cls_ok (c.fact 19 rfl)
  mgRow := He.glo_ok X G (c.fact 20 rfl)
  clRow := He.cls_ok (c.fact 21 rfl)
  mgRoot := He.glo_ok X G (c.fact 22 rfl)
  clRoot := He.cls_ok (c.fact 23 rfl)
  nTable_a := He.noat_ok (c.fact 24 rfl)
  nTable_b := He.noat_ok (c.fact 25 rfl)
  nTable_c := He.noat_ok (c.fact 26 rfl)
  nTable_d := He.noat_ok (c.fact 27 rfl)
  nFrac_top := He.noat_ok (c.fact 28 rfl)
  nFrac_bottom := He.noat_ok (c.fact 29 rfl)
  nRow_head := He.noat_ok (c.fact 30 rfl)
  nRow_loop := He.noat_ok (c.fact 31 rfl)
  nRow_kind := He.noat_ok (c.fact 32 rfl)
  nRoot_a := He.noat_ok (c.fact 33 rfl)
  nRoot_b := He.noat_ok (c.fact 34 rfl)
  nRoot_c := He.noat_ok (c.fact 35 rfl)
  nRoot_disc := He.noat_ok (c.fact 36 rfl)
  iTable := ⟨He.cls_ok (c.fact 17 rfl), He.eqO_ok (c.fact 37 rfl), He.eqO_ok (c.fact 38 rfl), of_decide_eq_true (c.fact 39 rfl), of_decide_eq_true (c.fact 40 rfl)⟩
  kTable := of_decide_eq_true (c.fact 41 rfl)
  iFrac := ⟨He.cls_ok (c.fact 19 rfl), He.eqO_ok (c.fact 42 rfl), He.eqO_ok (c.fact 38 rfl), of_decide_eq_true (c.fact 39 rfl), of_decide_eq_true (c.fact 43 rfl)⟩
  kFrac := of_decide_eq_true (c.fact 44 rfl)
theorem facts {P : Program} {w : World} {K : Frag} {h : Heap} {mg : Str → Option Value} {f : Addr} (X : K.In h) (G : h.Ns mainGlobals mg) (hfa : mg ("law" : Str) = some (.ref f)) (c : SaysX K) :
    ∃ fd : FuncData, (∀ (s : Shared) (v : Value), BindsTo s fd ⟨[v], []⟩ [("script", v)]) ∧ ∀ base : Heap, K.In base → base.Ns mainGlobals mg → FnOk P w K mg base CX0 8 f fd ["script"] (spD K 1 rLaw) := by
  have e := hfa.symm.trans (He.glo_ok X G (c.fact 149 rfl))
  cases e
  have T := txt_ok X G c
  obtain ⟨fd0, F0⟩ := c.def_ 0 rfl
  have b0 : Binds K fd0 [("self" : Str), ("a" : Str), ("b" : Str), ("c" : Str), ("d" : Str)] [] := FunD.bindsN F0 fun _ _ _ _ _ _ us hl => match us, hl with | [_, _, _, _, _], _ => rfl
  obtain ⟨fd1, F1⟩ := c.def_ 1 rfl
  have b1 : Binds K fd1 [("turns" : Str)] [] := FunD.bindsN F1 fun _ _ _ _ _ _ us hl => match us, hl with | [_], _ => rfl
  obtain ⟨fd2, F2⟩ := c.def_ 2 rfl
  have b2 : Binds K fd2 [("number" : Str)] [] := FunD.bindsN F2 fun _ _ _ _ _ _ us hl => match us, hl with | [_], _ => rfl
  obtain ⟨fd3, F3⟩ := c.def_ 3 rfl
  have b3 : Binds K fd3 [("self" : Str), ("top" : Str), ("bottom" : Str)] [] := by
    obtain ⟨ds, v, b⟩ := FunD.binds1 (ps := [("self" : Str), ("top" : Str), ("bottom" : Str)]) F3 3 1 (by simp [He5.DefA.dvs]) rfl fun T kV doc pm an cdv ct us its hl h2 => match us, its, hl, h2 with | [_, _, _], [_], _, _ => ⟨_, rfl, rfl⟩
    cases v; exact b
  obtain ⟨fd4, F4⟩ := c.def_ 4 rfl
  have b4 : Binds K fd4 [("self" : Str), ("other" : Str)] [] := FunD.bindsN F4 fun _ _ _ _ _ _ us hl => match us, hl with | [_, _], _ => rfl
  obtain ⟨fd5, F5⟩ := c.def_ 5 rfl
  have b5 : Binds K fd5 [("self" : Str)] [] := FunD.bindsN F5 fun _ _ _ _ _ _ us hl => match us, hl with | [_], _ => rfl
  obtain ⟨fd6, F6⟩ := c.def_ 6 rfl
  have b6 : Binds K fd6 [("self" : Str)] [] := FunD.bindsN F6 fun _ _ _ _ _ _ us hl => match us, hl with | [_], _ => rfl
  obtain ⟨fd7, F7⟩ := c.def_ 7 rfl
  have b7 : Binds K fd7 [("self" : Str)] [] := FunD.bindsN F7 fun _ _ _ _ _ _ us hl => match us, hl with | [_], _ => rfl
  obtain ⟨fd8, F8⟩ := c.def_ 8 rfl
  have b8 : Binds K fd8 [("self" : Str)] [] := FunD.bindsN F8 fun _ _ _ _ _ _ us hl => match us, hl with | [_], _ => rfl
  obtain ⟨fd9, F9⟩ := c.def_ 9 rfl
  have b9 : Binds K fd9 [("self" : Str)] [] := FunD.bindsN F9 fun _ _ _ _ _ _ us hl => match us, hl with | [_], _ => rfl
  obtain ⟨fd10, F10⟩ := c.def_ 10 rfl
  have b10 : Binds K fd10 [] [] := FunD.bindsN F10 fun _ _ _ _ _ _ us hl => match us, hl with | [], _ => rfl
  obtain ⟨fd11, F11⟩ := c.def_ 11 rfl
  have b11 : Binds K fd11 [("self" : Str), ("n" : Str)] [] := FunD.bindsN F11 fun _ _ _ _ _ _ us hl => match us, hl with | [_, _], _ => rfl
  obtain ⟨fd12, F12⟩ := c.def_ 12 rfl
  have b12 : Binds K fd12 [("loop" : Str), ("count" : Str)] [] := FunD.bindsN F12 fun _ _ _ _ _ _ us hl => match us, hl with | [_, _], _ => rfl
  obtain ⟨fd13, F13⟩ := c.def_ 13 rfl
  have b13 : Binds K fd13 [("loop" : Str), ("count" : Str)] [] := FunD.bindsN F13 fun _ _ _ _ _ _ us hl => match us, hl with | [_, _], _ => rfl
  obtain ⟨fd14, F14⟩ := c.def_ 14 rfl
  have b14 : Binds K fd14 [("head" : Str), ("loop" : Str), ("place" : Str)] [] := FunD.bindsN F14 fun _ _ _ _ _ _ us hl => match us, hl with | [_, _, _], _ => rfl
  obtain ⟨fd15, F15⟩ := c.def_ 15 rfl
  have b15 : Binds K fd15 [("head" : Str), ("loop" : Str), ("many" : Str)] [] := FunD.bindsN F15 fun _ _ _ _ _ _ us hl => match us, hl with | [_, _, _], _ => rfl
  obtain ⟨fd16, F16⟩ := c.def_ 16 rfl
  have b16 : Binds K fd16 [("loop" : Str), ("size" : Str)] [] := FunD.bindsN F16 fun _ _ _ _ _ _ us hl => match us, hl with | [_, _], _ => rfl
  obtain ⟨fd17, F17⟩ := c.def_ 17 rfl
  have b17 : Binds K fd17 [("loop" : Str)] [] := FunD.bindsN F17 fun _ _ _ _ _ _ us hl => match us, hl with | [_], _ => rfl
  obtain ⟨fd18, F18⟩ := c.def_ 18 rfl
  have b18 : Binds K fd18 [("head" : Str), ("loop" : Str)] [] := FunD.bindsN F18 fun _ _ _ _ _ _ us hl => match us, hl with | [_, _], _ => rfl
  obtain ⟨fd19, F19⟩ := c.def_ 19 rfl
  have b19 : Binds K fd19 [("loop" : Str)] [] := FunD.bindsN F19 fun _ _ _ _ _ _ us hl => match us, hl with | [_], _ => rfl
  obtain ⟨fd20, F20⟩ := c.def_ 20 rfl
  have b20 : Binds K fd20 [("self" : Str), ("head" : Str), ("loop" : Str)] [] := by
    obtain ⟨ds, v, b⟩ := FunD.binds1 (ps := [("self" : Str), ("head" : Str), ("loop" : Str)]) F20 3 1 (by simp [He5.DefA.dvs]) rfl fun T kV doc pm an cdv ct us its hl h2 => match us, its, hl, h2 with | [_, _, _], [_], _, _ => ⟨_, rfl, rfl⟩
    cases v; exact b
  obtain ⟨fd21, F21⟩ := c.def_ 21 rfl
  have b21 : Binds K fd21 [("self" : Str), ("place" : Str)] [] := FunD.bindsN F21 fun _ _ _ _ _ _ us hl => match us, hl with | [_, _], _ => rfl
  obtain ⟨fd22, F22⟩ := c.def_ 22 rfl
  have b22 : Binds K fd22 [("self" : Str), ("many" : Str)] [] := FunD.bindsN F22 fun _ _ _ _ _ _ us hl => match us, hl with | [_, _], _ => rfl
  obtain ⟨fd23, F23⟩ := c.def_ 23 rfl
  have b23 : Binds K fd23 [("self" : Str), ("many" : Str)] [] := FunD.bindsN F23 fun _ _ _ _ _ _ us hl => match us, hl with | [_, _], _ => rfl
  obtain ⟨fd24, F24⟩ := c.def_ 24 rfl
  have b24 : Binds K fd24 [("self" : Str), ("place" : Str)] [] := FunD.bindsN F24 fun _ _ _ _ _ _ us hl => match us, hl with | [_, _], _ => rfl
  obtain ⟨fd25, F25⟩ := c.def_ 25 rfl
  have b25 : Binds K fd25 [("self" : Str)] [] := FunD.bindsN F25 fun _ _ _ _ _ _ us hl => match us, hl with | [_], _ => rfl
  obtain ⟨fd26, F26⟩ := c.def_ 26 rfl
  have b26 : Binds K fd26 [("disc" : Str)] [] := FunD.bindsN F26 fun _ _ _ _ _ _ us hl => match us, hl with | [_], _ => rfl
  obtain ⟨fd27, F27⟩ := c.def_ 27 rfl
  have b27 : Binds K fd27 [("a" : Str), ("b" : Str), ("side" : Str)] [] := FunD.bindsN F27 fun _ _ _ _ _ _ us hl => match us, hl with | [_, _, _], _ => rfl
  obtain ⟨fd28, F28⟩ := c.def_ 28 rfl
  have b28 : Binds K fd28 [("a" : Str), ("b" : Str), ("c" : Str), ("table" : Str)] [] := FunD.bindsN F28 fun _ _ _ _ _ _ us hl => match us, hl with | [_, _, _, _], _ => rfl
  obtain ⟨fd29, F29⟩ := c.def_ 29 rfl
  have b29 : Binds K fd29 [("self" : Str), ("a" : Str), ("b" : Str), ("c" : Str)] [] := FunD.bindsN F29 fun _ _ _ _ _ _ us hl => match us, hl with | [_, _, _, _], _ => rfl
  obtain ⟨fd30, F30⟩ := c.def_ 30 rfl
  have b30 : Binds K fd30 [("self" : Str), ("table" : Str)] [] := FunD.bindsN F30 fun _ _ _ _ _ _ us hl => match us, hl with | [_, _], _ => rfl
  obtain ⟨fd31, F31⟩ := c.def_ 31 rfl
  have b31 : Binds K fd31 [("root" : Str), ("most" : Str)] [] := FunD.bindsN F31 fun _ _ _ _ _ _ us hl => match us, hl with | [_, _], _ => rfl
  obtain ⟨fd32, F32⟩ := c.def_ 32 rfl
  have b32 : Binds K fd32 [("root" : Str)] [] := FunD.bindsN F32 fun _ _ _ _ _ _ us hl => match us, hl with | [_], _ => rfl
  obtain ⟨fd33, F33⟩ := c.def_ 33 rfl
  have b33 : Binds K fd33 [("root" : Str)] [] := FunD.bindsN F33 fun _ _ _ _ _ _ us hl => match us, hl with | [_], _ => rfl
  obtain ⟨fd34, F34⟩ := c.def_ 34 rfl
  have b34 : Binds K fd34 [("root" : Str)] [] := FunD.bindsN F34 fun _ _ _ _ _ _ us hl => match us, hl with | [_], _ => rfl
  obtain ⟨fd35, F35⟩ := c.def_ 35 rfl
  have b35 : Binds K fd35 [("row" : Str)] [] := FunD.bindsN F35 fun _ _ _ _ _ _ us hl => match us, hl with | [_], _ => rfl
  obtain ⟨fd36, F36⟩ := c.def_ 36 rfl
  have b36 : Binds K fd36 [("point" : Str), ("step" : Str), ("many" : Str)] [] := FunD.bindsN F36 fun _ _ _ _ _ _ us hl => match us, hl with | [_, _, _], _ => rfl
  obtain ⟨fd37, F37⟩ := c.def_ 37 rfl
  have b37 : Binds K fd37 [("row" : Str), ("side" : Str), ("many" : Str)] [] := FunD.bindsN F37 fun _ _ _ _ _ _ us hl => match us, hl with | [_, _, _], _ => rfl
  obtain ⟨fd38, F38⟩ := c.def_ 38 rfl
  have b38 : Binds K fd38 [("row" : Str), ("side" : Str)] [] := FunD.bindsN F38 fun _ _ _ _ _ _ us hl => match us, hl with | [_, _], _ => rfl
  obtain ⟨fd39, F39⟩ := c.def_ 39 rfl
  have b39 : Binds K fd39 [("row" : Str), ("corner" : Str), ("step" : Str), ("place" : Str)] [] := FunD.bindsN F39 fun _ _ _ _ _ _ us hl => match us, hl with | [_, _, _, _], _ => rfl
  obtain ⟨fd40, F40⟩ := c.def_ 40 rfl
  have b40 : Binds K fd40 [("row" : Str), ("side" : Str), ("many" : Str)] [] := FunD.bindsN F40 fun _ _ _ _ _ _ us hl => match us, hl with | [_, _, _], _ => rfl
  obtain ⟨fd41, F41⟩ := c.def_ 41 rfl
  have b41 : Binds K fd41 [("script" : Str)] [] := FunD.bindsN F41 fun _ _ _ _ _ _ us hl => match us, hl with | [_], _ => rfl
  obtain ⟨fd42, F42⟩ := c.def_ 42 rfl
  have b42 : Binds K fd42 [("told" : Str)] [] := FunD.bindsN F42 fun _ _ _ _ _ _ us hl => match us, hl with | [_], _ => rfl
  obtain ⟨fd43, F43⟩ := c.def_ 43 rfl
  have b43 : Binds K fd43 [("pool" : Str), ("many" : Str)] [] := FunD.bindsN F43 fun _ _ _ _ _ _ us hl => match us, hl with | [_, _], _ => rfl
  obtain ⟨fd44, F44⟩ := c.def_ 44 rfl
  have b44 : Binds K fd44 [("pool" : Str)] [] := FunD.bindsN F44 fun _ _ _ _ _ _ us hl => match us, hl with | [_], _ => rfl
  obtain ⟨fd45, F45⟩ := c.def_ 45 rfl
  have b45 : Binds K fd45 [("pool" : Str)] [] := FunD.bindsN F45 fun _ _ _ _ _ _ us hl => match us, hl with | [_], _ => rfl
  obtain ⟨fd46, F46⟩ := c.def_ 46 rfl
  have b46 : Binds K fd46 [("head" : Str), ("loop" : Str)] [] := FunD.bindsN F46 fun _ _ _ _ _ _ us hl => match us, hl with | [_, _], _ => rfl
  obtain ⟨fd47, F47⟩ := c.def_ 47 rfl
  have b47 : Binds K fd47 [("turns" : Str)] [] := FunD.bindsN F47 fun _ _ _ _ _ _ us hl => match us, hl with | [_], _ => rfl
  obtain ⟨fd48, F48⟩ := c.def_ 48 rfl
  have b48 : Binds K fd48 [("x" : Str), ("y" : Str)] [] := FunD.bindsN F48 fun _ _ _ _ _ _ us hl => match us, hl with | [_, _], _ => rfl
  obtain ⟨fd49, F49⟩ := c.def_ 49 rfl
  have b49 : Binds K fd49 [("table" : Str)] [] := FunD.bindsN F49 fun _ _ _ _ _ _ us hl => match us, hl with | [_], _ => rfl
  obtain ⟨fd50, F50⟩ := c.def_ 50 rfl
  have b50 : Binds K fd50 [("front" : Str), ("ring" : Str)] [] := FunD.bindsN F50 fun _ _ _ _ _ _ us hl => match us, hl with | [_, _], _ => rfl
  obtain ⟨fd51, F51⟩ := c.def_ 51 rfl
  have b51 : Binds K fd51 [("told" : Str)] [] := FunD.bindsN F51 fun _ _ _ _ _ _ us hl => match us, hl with | [_], _ => rfl
  obtain ⟨fd52, F52⟩ := c.def_ 52 rfl
  have b52 : Binds K fd52 [("turns" : Str)] [] := FunD.bindsN F52 fun _ _ _ _ _ _ us hl => match us, hl with | [_], _ => rfl
  obtain ⟨fd53, F53⟩ := c.def_ 53 rfl
  have b53 : Binds K fd53 [("table" : Str), ("point" : Str)] [] := FunD.bindsN F53 fun _ _ _ _ _ _ us hl => match us, hl with | [_, _], _ => rfl
  obtain ⟨fd54, F54⟩ := c.def_ 54 rfl
  have b54 : Binds K fd54 [("told" : Str), ("points" : Str)] [] := FunD.bindsN F54 fun _ _ _ _ _ _ us hl => match us, hl with | [_, _], _ => rfl
  obtain ⟨fd55, F55⟩ := c.def_ 55 rfl
  have b55 : Binds K fd55 [("sails" : Str), ("n" : Str)] [] := FunD.bindsN F55 fun _ _ _ _ _ _ us hl => match us, hl with | [_, _], _ => rfl
  obtain ⟨fd56, F56⟩ := c.def_ 56 rfl
  have b56 : Binds K fd56 [("kept" : Str), ("sails" : Str), ("start" : Str), ("size" : Str)] [] := FunD.bindsN F56 fun _ _ _ _ _ _ us hl => match us, hl with | [_, _, _, _], _ => rfl
  obtain ⟨fd57, F57⟩ := c.def_ 57 rfl
  have b57 : Binds K fd57 [("row" : Str), ("kept" : Str), ("points" : Str), ("start" : Str), ("size" : Str)] [] := FunD.bindsN F57 fun _ _ _ _ _ _ us hl => match us, hl with | [_, _, _, _, _], _ => rfl
  obtain ⟨fd58, F58⟩ := c.def_ 58 rfl
  have b58 : Binds K fd58 [("script" : Str)] [] := FunD.bindsN F58 fun _ _ _ _ _ _ us hl => match us, hl with | [_], _ => rfl
  exact ⟨fd58, fun s v => FunD.bindsA (ps := [("script" : Str)]) F58 (fun _ _ _ _ _ _ us hl => match us, hl with | [_], _ => rfl) s [v] rfl, fun base _ _ => by
    have h_Tabled_initd : Mkr P w K mg base "Table" (cTable K) 1 (spI K (cTable K) 4 rTableI) := ⟨_, T.mgTable, He.mkr_ok (c.fact 45 rfl), (ok_Tabled_initd F0 b0 T )⟩
    have h_turns_table : Fn P w K mg base "turns_table" 3 (spD K 1 (rTurnsTable K)) := ⟨_, He.glo_ok X G (c.fact 46 rfl), He.keep_ok (c.fact 47 rfl), (ok_turns_table F1 b1 T h_Tabled_initd)⟩
    have h_sign_of : Fn P w K mg base "sign_of" 1 (spD K 1 rSign) := ⟨_, He.glo_ok X G (c.fact 48 rfl), He.keep_ok (c.fact 49 rfl), (ok_sign_of F2 b2 T )⟩
    have h_Fracd_initd : Mkr P w K mg base "Frac" (cFrac K) 2 (spI K (cFrac K) 2 rFracI) := ⟨_, T.mgFrac, He.mkr_ok (c.fact 50 rfl), (ok_Fracd_initd F3 b3 T h_sign_of)⟩
    have h_Tabled_muld : Op2 P w K mg base (cTable K) .Mult 3 (spD K 2 (rTMul K)) := ⟨_, c.fact 51 rfl, He.eqO_ok (c.fact 52 rfl), c.fact 53 rfl, (ok_Tabled_muld F4 b4 T h_Tabled_initd)⟩
    have h_Tabled_negd : Op1 P w K mg base (cTable K) 3 (spD K 1 (rTNeg K)) := ⟨_, He.eqO_ok (c.fact 54 rfl), c.fact 55 rfl, (ok_Tabled_negd F5 b5 T h_Tabled_initd)⟩
    have h_Table_det : Me P w K mg base (cTable K) "det" 1 (spD K 1 (rTDet K)) := ⟨_, He.meth_ok (c.fact 56 rfl), (ok_Table_det F6 b6 T )⟩
    have h_Table_trace : Me P w K mg base (cTable K) "trace" 1 (spD K 1 (rTTrace K)) := ⟨_, He.meth_ok (c.fact 57 rfl), (ok_Table_trace F7 b7 T )⟩
    have h_Table_adjugate : Me P w K mg base (cTable K) "adjugate" 3 (spD K 1 (rTAdj K)) := ⟨_, He.meth_ok (c.fact 58 rfl), (ok_Table_adjugate F8 b8 T h_Tabled_initd)⟩
    have h_Table_inverse : Me P w K mg base (cTable K) "inverse" 4 (spD K 1 (rTInv K)) := ⟨_, He.meth_ok (c.fact 59 rfl), (ok_Table_inverse F9 b9 T h_Table_det h_Table_adjugate h_Tabled_negd)⟩
    have h_Table_unit : Sm P w K mg base (cTable K) "unit" 3 (spD K 0 (rTUnit K)) := ⟨_, _, .type "type", ⟨c.fact 60 rfl, He.eqO_ok (c.fact 61 rfl)⟩, ⟨(He5.wrapB_ok (c.fact 62 rfl)).1, (He5.wrapB_ok (c.fact 62 rfl)).2, c.fact 63 rfl⟩, (ok_Table_unit F10 b10 T h_Tabled_initd)⟩
    have h_Table_raised : Me P w K mg base (cTable K) "raised" 5 (spD K 2 (rTRaised K)) := ⟨_, He.meth_ok (c.fact 64 rfl), (ok_Table_raised F11 b11 T h_Table_inverse h_Table_unit h_Tabled_muld)⟩
    have h_turn_of_loop : Fn P w K mg base "turn_of_loop" 1 (spD K 2 rTurnOf) := ⟨_, He.glo_ok X G (c.fact 65 rfl), He.keep_ok (c.fact 66 rfl), (ok_turn_of_loop F12 b12 T )⟩
    have h_loop_from : Fn P w K mg base "loop_from" 2 (spD K 2 rLoopFrom) := ⟨_, He.glo_ok X G (c.fact 67 rfl), He.keep_ok (c.fact 68 rfl), (ok_loop_from F13 b13 T h_turn_of_loop)⟩
    have h_turn_in : Fn P w K mg base "turn_in" 2 (spD K 3 rTurnIn) := ⟨_, He.glo_ok X G (c.fact 69 rfl), He.keep_ok (c.fact 70 rfl), (ok_turn_in F14 b14 T h_turn_of_loop)⟩
    have h_unrolled : Fn P w K mg base "unrolled" 3 (spD K 3 rUnrolled) := ⟨_, He.glo_ok X G (c.fact 71 rfl), He.keep_ok (c.fact 72 rfl), (ok_unrolled F15 b15 T h_turn_of_loop h_loop_from)⟩
    have h__spread : Fn P w K mg base "_spread" 1 (spD K 2 rSpread) := ⟨_, He.glo_ok X G (c.fact 73 rfl), He.keep_ok (c.fact 74 rfl), (ok__spread F16 b16 T )⟩
    have h_least_loop : Fn P w K mg base "least_loop" 2 (spD K 1 rLeast) := ⟨_, He.glo_ok X G (c.fact 75 rfl), He.keep_ok (c.fact 76 rfl), (ok_least_loop F17 b17 T h__spread)⟩
    have h_one_form : Fn P w K mg base "one_form" 3 (spD K 2 rOneForm) := ⟨_, He.glo_ok X G (c.fact 77 rfl), He.keep_ok (c.fact 78 rfl), (ok_one_form F18 b18 T h_least_loop h_turn_of_loop h_loop_from)⟩
    have h_kind_of : Fn P w K mg base "kind_of" 1 (spD K 1 rKind) := ⟨_, He.glo_ok X G (c.fact 79 rfl), He.keep_ok (c.fact 80 rfl), (ok_kind_of F19 b19 T )⟩
    have h_Rowd_initd : Mkr P w K mg base "Row" (cRow K) 4 (spI K (cRow K) 2 rRowI) := ⟨_, T.mgRow, He.mkr_ok (c.fact 81 rfl), (ok_Rowd_initd F20 b20 T h_one_form h_kind_of)⟩
    have h_Row_turn : Me P w K mg base (cRow K) "turn" 3 (spD K 2 (rRowTurn K)) := ⟨_, He.meth_ok (c.fact 82 rfl), (ok_Row_turn F21 b21 T h_turn_in)⟩
    have h_Row_turns : Me P w K mg base (cRow K) "turns" 4 (spD K 2 (rRowTurns K)) := ⟨_, He.meth_ok (c.fact 83 rfl), (ok_Row_turns F22 b22 T h_unrolled)⟩
    have h_Row_table : Me P w K mg base (cRow K) "table" 5 (spD K 2 (rRowTable K)) := ⟨_, He.meth_ok (c.fact 84 rfl), (ok_Row_table F23 b23 T h_Row_turns h_turns_table)⟩
    have h_Row_convergent : Me P w K mg base (cRow K) "convergent" 6 (spD K 2 (rConv K)) := ⟨_, He.meth_ok (c.fact 85 rfl), (ok_Row_convergent F24 b24 T h_Row_turn h_Row_table h_Fracd_initd)⟩
    have h_Row_floor : Me P w K mg base (cRow K) "floor" 1 (spD K 1 (rFloor K)) := ⟨_, He.meth_ok (c.fact 86 rfl), (ok_Row_floor F25 b25 T )⟩
    have h_unfit_disc : Fn P w K mg base "unfit_disc" 1 (spD K 1 rUnfit) := ⟨_, He.glo_ok X G (c.fact 87 rfl), He.keep_ok (c.fact 88 rfl), (ok_unfit_disc F26 b26 T )⟩
    have h_floor_by_side : Fn P w K mg base "floor_by_side" 1 (spD K 3 rFloorBy) := ⟨_, He.glo_ok X G (c.fact 89 rfl), He.keep_ok (c.fact 90 rfl), (ok_floor_by_side F27 b27 T )⟩
    have h_moved_numbers : Fn P w K mg base "moved_numbers" 1 (spD K 4 (rMoved K)) := ⟨_, He.glo_ok X G (c.fact 91 rfl), He.keep_ok (c.fact 92 rfl), (ok_moved_numbers F28 b28 T )⟩
    have h_Rootd_initd : Mkr P w K mg base "Root" (cRoot K) 2 (spI K (cRoot K) 3 rRootI) := ⟨_, T.mgRoot, He.mkr_ok (c.fact 93 rfl), (ok_Rootd_initd F29 b29 T h_unfit_disc)⟩
    have h_Root_moved : Me P w K mg base (cRoot K) "moved" 4 (spD K 2 (rRootMoved K)) := ⟨_, He.meth_ok (c.fact 94 rfl), (ok_Root_moved F30 b30 T h_Table_det h_moved_numbers h_Table_adjugate h_Rootd_initd)⟩
    have h__walk : Fn P w K mg base "_walk" 2 (spW K 2 (rWalk K)) := ⟨_, He.glo_ok X G (c.fact 95 rfl), He.keep_ok (c.fact 96 rfl), (ok__walk F31 b31 T h_floor_by_side)⟩
    have h__settled : Fn P w K mg base "_settled" 3 (spD K 1 (rSettled K)) := ⟨_, He.glo_ok X G (c.fact 97 rfl), He.keep_ok (c.fact 98 rfl), (ok__settled F32 b32 T h__walk)⟩
    have h_row_of : Fn P w K mg base "row_of" 6 (spD K 1 (rRowOf K)) := ⟨_, He.glo_ok X G (c.fact 99 rfl), He.keep_ok (c.fact 100 rfl), (ok_row_of F33 b33 T h__settled h_Rowd_initd)⟩
    have h_keeper : Fn P w K mg base "keeper" 7 (spD K 1 (rKeeper K)) := ⟨_, He.glo_ok X G (c.fact 101 rfl), He.keep_ok (c.fact 102 rfl), (ok_keeper F34 b34 T h_row_of h_Row_table h_Tabled_muld h_Table_inverse)⟩
    have h_root_of : Fn P w K mg base "root_of" 5 (spD K 1 (rRootOf K)) := ⟨_, He.glo_ok X G (c.fact 103 rfl), He.keep_ok (c.fact 104 rfl), (ok_root_of F35 b35 T h_turns_table h_Rootd_initd h_Root_moved)⟩
    have h_along : Fn P w K mg base "along" 1 (spD K 3 rAlong) := ⟨_, He.glo_ok X G (c.fact 105 rfl), He.keep_ok (c.fact 106 rfl), (ok_along F36 b36 T )⟩
    have h_check_sail : Fn P w K mg base "check_sail" 1 (spD K 3 (rCheck K)) := ⟨_, He.glo_ok X G (c.fact 107 rfl), He.keep_ok (c.fact 108 rfl), (ok_check_sail F37 b37 T )⟩
    have h_first_edge : Fn P w K mg base "first_edge" 4 (spD K 2 (rFirst K)) := ⟨_, He.glo_ok X G (c.fact 109 rfl), He.keep_ok (c.fact 110 rfl), (ok_first_edge F38 b38 T h_Row_floor h_along h_Row_turn)⟩
    have h_next_edge : Fn P w K mg base "next_edge" 4 (spD K 4 (rNext K)) := ⟨_, He.glo_ok X G (c.fact 111 rfl), He.keep_ok (c.fact 112 rfl), (ok_next_edge F39 b39 T h_along h_Row_turn)⟩
    have h_sail : Fn P w K mg base "sail" 5 (spL K 3 (rSail K)) := ⟨_, He.glo_ok X G (c.fact 113 rfl), He.keep_ok (c.fact 114 rfl), (ok_sail F40 b40 T h_check_sail h_first_edge h_next_edge)⟩
    have h__law_pool : Fn P w K mg base "_law_pool" 1 (spL K 1 rPool) := ⟨_, He.glo_ok X G (c.fact 115 rfl), He.keep_ok (c.fact 116 rfl), (ok__law_pool F41 b41 T )⟩
    have h__law_whole : Fn P w K mg base "_law_whole" 1 (spD K 1 rWhole) := ⟨_, He.glo_ok X G (c.fact 117 rfl), He.keep_ok (c.fact 118 rfl), (ok__law_whole F42 b42 T )⟩
    have h__law_draw : Fn P w K mg base "_law_draw" 1 (spM K 1 rDraw) := ⟨_, He.glo_ok X G (c.fact 119 rfl), He.keep_ok (c.fact 120 rfl), (ok__law_draw F43 b43 T )⟩
    have h__law_turn : Fn P w K mg base "_law_turn" 2 (spM K 0 rLTurn) := ⟨_, He.glo_ok X G (c.fact 121 rfl), He.keep_ok (c.fact 122 rfl), (ok__law_turn F44 b44 T h__law_draw)⟩
    have h__law_looped : Fn P w K mg base "_law_looped" 3 (spM K 0 rLooped) := ⟨_, He.glo_ok X G (c.fact 123 rfl), He.keep_ok (c.fact 124 rfl), (ok__law_looped F45 b45 T h__law_draw h__law_turn)⟩
    have h__law_short : Fn P w K mg base "_law_short" 1 (spD K 2 rShort) := ⟨_, He.glo_ok X G (c.fact 125 rfl), He.keep_ok (c.fact 126 rfl), (ok__law_short F46 b46 T )⟩
    have h__law_product : Fn P w K mg base "_law_product" 1 (spD K 1 rProduct) := ⟨_, He.glo_ok X G (c.fact 127 rfl), He.keep_ok (c.fact 128 rfl), (ok__law_product F47 b47 T )⟩
    have h__law_times : Fn P w K mg base "_law_times" 1 (spD K 2 rTimes) := ⟨_, He.glo_ok X G (c.fact 129 rfl), He.keep_ok (c.fact 130 rfl), (ok__law_times F48 b48 T )⟩
    have h__law_back : Fn P w K mg base "_law_back" 1 (spD K 1 rBack) := ⟨_, He.glo_ok X G (c.fact 131 rfl), He.keep_ok (c.fact 132 rfl), (ok__law_back F49 b49 T )⟩
    have h__law_keeper : Fn P w K mg base "_law_keeper" 2 (spD K 2 rLKeeper) := ⟨_, He.glo_ok X G (c.fact 133 rfl), He.keep_ok (c.fact 134 rfl), (ok__law_keeper F50 b50 T h__law_product h__law_times h__law_back)⟩
    have h__law_numbers : Fn P w K mg base "_law_numbers" 2 (spD K 1 (rNumbers K)) := ⟨_, He.glo_ok X G (c.fact 135 rfl), He.keep_ok (c.fact 136 rfl), (ok__law_numbers F51 b51 T h__law_whole)⟩
    have h__law_points : Fn P w K mg base "_law_points" 1 (spD K 1 rPoints) := ⟨_, He.glo_ok X G (c.fact 137 rfl), He.keep_ok (c.fact 138 rfl), (ok__law_points F52 b52 T )⟩
    have h__law_moved : Fn P w K mg base "_law_moved" 1 (spD K 2 rMovedP) := ⟨_, He.glo_ok X G (c.fact 139 rfl), He.keep_ok (c.fact 140 rfl), (ok__law_moved F53 b53 T )⟩
    have h__law_are_points : Fn P w K mg base "_law_are_points" 2 (spD K 2 rAre) := ⟨_, He.glo_ok X G (c.fact 141 rfl), He.keep_ok (c.fact 142 rfl), (ok__law_are_points F54 b54 T h__law_whole)⟩
    have h__law_corner : Fn P w K mg base "_law_corner" 1 (spD K 2 rCorner) := ⟨_, He.glo_ok X G (c.fact 143 rfl), He.keep_ok (c.fact 144 rfl), (ok__law_corner F55 b55 T )⟩
    have h__law_carries : Fn P w K mg base "_law_carries" 6 (spD K 4 (rCarries K)) := ⟨_, He.glo_ok X G (c.fact 145 rfl), He.keep_ok (c.fact 146 rfl), (ok__law_carries F56 b56 T h__law_numbers h_Table_raised h_Table_inverse h__law_corner h__law_moved)⟩
    have h__law_follow : Fn P w K mg base "_law_follow" 7 (spD K 5 (rFollow K)) := ⟨_, He.glo_ok X G (c.fact 147 rfl), He.keep_ok (c.fact 148 rfl), (ok__law_follow F57 b57 T h_Table_trace h_Table_det h_Row_convergent h__law_whole)⟩
    exact ok_law F58 b58 T h__law_pool h__law_looped h__law_short h__law_points h_Rowd_initd h_keeper h_root_of h__law_keeper h_Table_det h_Table_trace h__law_numbers h_sail h__law_are_points h__law_follow h__law_carries⟩
end Gw

open PySem PySem.W PySem.Calls PyProof.Rows
theorem PySem.Challenge.cw_goodturns_k92_whole_keepers_move_sails_holds : PySem.Challenge.rw_goodturns_k92_whole_keepers_move_sails.Holds := by
  w_on; o_law
  refine HandSHeadRun.head_imp (r := OpenLaw.row PySem.Challenge.rw_goodturns_k92_whole_keepers_move_sails) (q := view (OpenLaw.row PySem.Challenge.rw_goodturns_k92_whole_keepers_move_sails).prog [0, 91]) (H := Gw.hookX) (ob := Gw.ob) (M := 12000) (loose := Gw.names) (d := HandSHeadRun.topDef (OpenLaw.row PySem.Challenge.rw_goodturns_k92_whole_keepers_move_sails).prog 91) (kwd := []) Gw.ob_eq Gw.run
    (by kernel_rfl) (by kernel_rfl) (by kernel_rfl) (by rfl) (by first | assumption | decide +kernel) (by decide +kernel) ⟨rfl, rfl, rfl, rfl, rfl, by decide +kernel⟩ ?hw ?hc
  case hw => w_witness2
  case hc =>
    refine L2.walk_ofE (l := PySem.Challenge.rw_goodturns_k92_whole_keepers_move_sails) (n := 63) (k := 8) (x := "script") (CX := L2.CX0) rfl (by decide) (by kernel_rfl) ⟨rfl, by decide, by decide⟩ ?F (fun _ _ _ _ z => z)
    intro w mg fa h Y G hmg0
    obtain ⟨K, KX, c⟩ := Y
    have hmg : mg ("law" : PySem.Str) = some (.ref fa) := by
      have e : (HandSHeadRun.topDef (OpenLaw.row PySem.Challenge.rw_goodturns_k92_whole_keepers_move_sails).prog 91).name = ("law" : PySem.Str) := by kernel_rfl
      rw [← e]
      exact hmg0
    obtain ⟨fd, hb, hF⟩ := Gw.facts (P := (PySem.Challenge.rw_goodturns_k92_whole_keepers_move_sails).prog) (w := w) KX G hmg c
    exact ⟨K, fd, (DL.spD K 1 Gw.rLaw), KX, hb, fun H a ns hl _ hS => ⟨rfl, H, [.scr ns], .bl true, Evl.Ex.refl _, ⟨_, _, rfl, ⟨a, rfl, hS⟩, rfl⟩, .mk ns hl, fun v H' F _ h => h⟩, hF⟩
