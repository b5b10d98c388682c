import PyProof.Rows.All
import Wide.All
import OpenK.AllK
import Wide.FinOn
import KE.KStateDown
import HandS.ForMost
import HandS.Defaults
import HandS.Lambda
import HandS.EndTab
import HandS.HeadWalk
import HandS.Head0
import HandS.Head1
import HandS.Head2
import HandS.HeadEnd
import HandS.HeadHook1
import HandS.HeadHook2
import HandS.HeadHook3
import HandS.HeadHook4
import HandS.IsInst
import HandS.WrittenGet
import PySem.Challenge.RW_figuretexts_k96_whole_spoilt_anywhere
import PyProof.FitsInt
import HandS.Wide
import HandS.TupAny
import HandS.TupLe
import HandS.NoneIn
import HandS.CallLocal
import HandS.Conv
import HandS.Zip
import HandS.Flow
import HandS.Style
import HandS.FStr
import HandS.SetFor
import HandS.RaiseMore
import HandS.Small
import HandS.Deep
import PyProof.StrOps2
import KE.KFmtOwn
import KE.KUnpackStar
import HandS.Walk
import PyProof.Rows.RegStrFacts
import HandS.ClsMeth
import PyProof.ReprNest
import PyProof.ReprDict
import PyProof.ReprRoads
import PyProof.StrHeap
import PyProof.StrLawsRepr
import PyProof.ReprLen
import KE.GoesMore
import KE.GoesEnumKw
import KE.KTupSum
import PyProof.Rows.CallKwBuiltin
import PyProof.Rows.ReprOcc
import HandS.OwnEq
import KE.KCallOwn
set_option Elab.async false
set_option linter.all false
set_option maxRecDepth 100000
set_option maxHeartbeats 0
namespace Fg
open PySem PySem.Spec PyProof.Rows L2
def top (i : Nat) : Stmt := PySem.Challenge.pw_figuretexts_k96_whole_spoilt_anywhere.main.body.getD i (.Pass ⟨0, 0, 0, 0⟩)
abbrev s_divisor_of : Stmt := top 3
abbrev s_ten : Stmt := top 4
abbrev s_by_ten : Stmt := top 6
abbrev s_power_of : Stmt := top 7
abbrev s_by_half : Stmt := top 11
abbrev s_goes_up : Stmt := top 12
abbrev s_goes_down : Stmt := top 13
abbrev s_goes_high : Stmt := top 14
abbrev s_goes_low : Stmt := top 15
abbrev s_goes_half_up : Stmt := top 16
abbrev s_goes_half_down : Stmt := top 17
abbrev s_goes_half_even : Stmt := top 18
abbrev s_goes_half_odd : Stmt := top 19
abbrev s_counts_of : Stmt := top 21
abbrev s_count_by : Stmt := top 22
abbrev s_rounded : Stmt := top 23
abbrev s_round_paper : Stmt := top 24
abbrev s_sum_of : Stmt := top 26
abbrev s_steps_of : Stmt := top 27
abbrev s_beyond_of : Stmt := top 28
abbrev s_first_greatest : Stmt := top 29
abbrev s_parts_rounded : Stmt := top 30
abbrev s_is_whole_sumchecks : Stmt := top 32
abbrev s_is_threshold : Stmt := top 34
abbrev s_is_put_so : Stmt := top 35
abbrev s_sum_holds : Stmt := top 36
abbrev s_is_whole_roundchecks : Stmt := top 38
abbrev s_is_tie : Stmt := top 40
abbrev s_is_greater : Stmt := top 41
abbrev s_round_holds : Stmt := top 42
abbrev s_ten_to : Stmt := top 44
abbrev s_leads_back : Stmt := top 46
abbrev s_counts_near : Stmt := top 47
abbrev s_shortest : Stmt := top 48
abbrev s_is_whole_shortchecks : Stmt := top 50
abbrev s_are_next : Stmt := top 52
abbrev s_is_back : Stmt := top 53
abbrev s_shortest_holds : Stmt := top 54
abbrev s_law_deck : Stmt := top 56
abbrev s_law_draw : Stmt := top 57
abbrev s_law_ten : Stmt := top 58
abbrev s_law_some_number : Stmt := top 59
abbrev s_law_some_step : Stmt := top 60
abbrev s_law_beyond : Stmt := top 61
abbrev s_law_steps : Stmt := top 62
abbrev s_law_whole : Stmt := top 63
abbrev s_law_round_due : Stmt := top 64
abbrev s_law_back : Stmt := top 65
abbrev s_law_shortest_due : Stmt := top 66
abbrev s_law_together : Stmt := top 67
abbrev s_law_put_so : Stmt := top 68
abbrev s_law_sum_due : Stmt := top 69
abbrev s_law_otherwise : Stmt := top 70
abbrev s_law_spoilt : Stmt := top 71
abbrev s_law_right : Stmt := top 72
abbrev s_law_number : Stmt := top 73
abbrev s_law : Stmt := top 74
abbrev s_N_init : Stmt := inClass (top 5) 0
abbrev s_N_eq : Stmt := inClass (top 5) 1
abbrev s_N_str : Stmt := inClass (top 5) 2
abbrev s_N_repr : Stmt := inClass (top 5) 3
abbrev s_N_more : Stmt := inClass (top 5) 4
abbrev s_N_less : Stmt := inClass (top 5) 5
abbrev s_N_times : Stmt := inClass (top 5) 6
abbrev s_N_over : Stmt := inClass (top 5) 7
abbrev s_N_below : Stmt := inClass (top 5) 8
abbrev s_N_size : Stmt := inClass (top 5) 9
abbrev s_N_floor : Stmt := inClass (top 5) 10
def d_divisor_of : He.DefD := ⟨("divisor_of", none), "divisor_of", "divisor_of", defArgs s_divisor_of, defBody s_divisor_of, defScope s_divisor_of, [], []⟩
def d_ten : He.DefD := ⟨("ten", none), "ten", "ten", defArgs s_ten, defBody s_ten, defScope s_ten, [], []⟩
def d_by_ten : He.DefD := ⟨("by_ten", none), "by_ten", "by_ten", defArgs s_by_ten, defBody s_by_ten, defScope s_by_ten, [], []⟩
def d_power_of : He.DefD := ⟨("power_of", none), "power_of", "power_of", defArgs s_power_of, defBody s_power_of, defScope s_power_of, [], []⟩
def d_by_half : He.DefD := ⟨("by_half", none), "by_half", "by_half", defArgs s_by_half, defBody s_by_half, defScope s_by_half, [], []⟩
def d_goes_up : He.DefD := ⟨("goes_up", none), "goes_up", "goes_up", defArgs s_goes_up, defBody s_goes_up, defScope s_goes_up, [], []⟩
def d_goes_down : He.DefD := ⟨("goes_down", none), "goes_down", "goes_down", defArgs s_goes_down, defBody s_goes_down, defScope s_goes_down, [], []⟩
def d_goes_high : He.DefD := ⟨("goes_high", none), "goes_high", "goes_high", defArgs s_goes_high, defBody s_goes_high, defScope s_goes_high, [], []⟩
def d_goes_low : He.DefD := ⟨("goes_low", none), "goes_low", "goes_low", defArgs s_goes_low, defBody s_goes_low, defScope s_goes_low, [], []⟩
def d_goes_half_up : He.DefD := ⟨("goes_half_up", none), "goes_half_up", "goes_half_up", defArgs s_goes_half_up, defBody s_goes_half_up, defScope s_goes_half_up, [], []⟩
def d_goes_half_down : He.DefD := ⟨("goes_half_down", none), "goes_half_down", "goes_half_down", defArgs s_goes_half_down, defBody s_goes_half_down, defScope s_goes_half_down, [], []⟩
def d_goes_half_even : He.DefD := ⟨("goes_half_even", none), "goes_half_even", "goes_half_even", defArgs s_goes_half_even, defBody s_goes_half_even, defScope s_goes_half_even, [], []⟩
def d_goes_half_odd : He.DefD := ⟨("goes_half_odd", none), "goes_half_odd", "goes_half_odd", defArgs s_goes_half_odd, defBody s_goes_half_odd, defScope s_goes_half_odd, [], []⟩
def d_counts_of : He.DefD := ⟨("counts_of", none), "counts_of", "counts_of", defArgs s_counts_of, defBody s_counts_of, defScope s_counts_of, [], []⟩
def d_count_by : He.DefD := ⟨("count_by", none), "count_by", "count_by", defArgs s_count_by, defBody s_count_by, defScope s_count_by, [], []⟩
def d_rounded : He.DefD := ⟨("rounded", none), "rounded", "rounded", defArgs s_rounded, defBody s_rounded, defScope s_rounded, [], [("way", .str "half even")]⟩
def d_round_paper : He.DefD := ⟨("round_paper", none), "round_paper", "round_paper", defArgs s_round_paper, defBody s_round_paper, defScope s_round_paper, [], [("way", .str "half even")]⟩
def d_sum_of : He.DefD := ⟨("sum_of", none), "sum_of", "sum_of", defArgs s_sum_of, defBody s_sum_of, defScope s_sum_of, [], []⟩
def d_steps_of : He.DefD := ⟨("steps_of", none), "steps_of", "steps_of", defArgs s_steps_of, defBody s_steps_of, defScope s_steps_of, [], []⟩
def d_beyond_of : He.DefD := ⟨("beyond_of", none), "beyond_of", "beyond_of", defArgs s_beyond_of, defBody s_beyond_of, defScope s_beyond_of, [], []⟩
def d_first_greatest : He.DefD := ⟨("first_greatest", none), "first_greatest", "first_greatest", defArgs s_first_greatest, defBody s_first_greatest, defScope s_first_greatest, [], []⟩
def d_parts_rounded : He.DefD := ⟨("parts_rounded", none), "parts_rounded", "parts_rounded", defArgs s_parts_rounded, defBody s_parts_rounded, defScope s_parts_rounded, [], []⟩
def d_is_whole_sumchecks : He.DefD := ⟨("is_whole_sumchecks", none), "is_whole", "is_whole", defArgs s_is_whole_sumchecks, defBody s_is_whole_sumchecks, defScope s_is_whole_sumchecks, [], []⟩
def d_is_threshold : He.DefD := ⟨("is_threshold", none), "is_threshold", "is_threshold", defArgs s_is_threshold, defBody s_is_threshold, defScope s_is_threshold, [], []⟩
def d_is_put_so : He.DefD := ⟨("is_put_so", none), "is_put_so", "is_put_so", defArgs s_is_put_so, defBody s_is_put_so, defScope s_is_put_so, [], []⟩
def d_sum_holds : He.DefD := ⟨("sum_holds", none), "sum_holds", "sum_holds", defArgs s_sum_holds, defBody s_sum_holds, defScope s_sum_holds, [], []⟩
def d_is_whole_roundchecks : He.DefD := ⟨("is_whole_roundchecks", none), "is_whole", "is_whole", defArgs s_is_whole_roundchecks, defBody s_is_whole_roundchecks, defScope s_is_whole_roundchecks, [], []⟩
def d_is_tie : He.DefD := ⟨("is_tie", none), "is_tie", "is_tie", defArgs s_is_tie, defBody s_is_tie, defScope s_is_tie, [], []⟩
def d_is_greater : He.DefD := ⟨("is_greater", none), "is_greater", "is_greater", defArgs s_is_greater, defBody s_is_greater, defScope s_is_greater, [], []⟩
def d_round_holds : He.DefD := ⟨("round_holds", none), "round_holds", "round_holds", defArgs s_round_holds, defBody s_round_holds, defScope s_round_holds, [], []⟩
def d_ten_to : He.DefD := ⟨("ten_to", none), "ten_to", "ten_to", defArgs s_ten_to, defBody s_ten_to, defScope s_ten_to, [], []⟩
def d_leads_back : He.DefD := ⟨("leads_back", none), "leads_back", "leads_back", defArgs s_leads_back, defBody s_leads_back, defScope s_leads_back, [], []⟩
def d_counts_near : He.DefD := ⟨("counts_near", none), "counts_near", "counts_near", defArgs s_counts_near, defBody s_counts_near, defScope s_counts_near, [], []⟩
def d_shortest : He.DefD := ⟨("shortest", none), "shortest", "shortest", defArgs s_shortest, defBody s_shortest, defScope s_shortest, [], []⟩
def d_is_whole_shortchecks : He.DefD := ⟨("is_whole_shortchecks", none), "is_whole", "is_whole", defArgs s_is_whole_shortchecks, defBody s_is_whole_shortchecks, defScope s_is_whole_shortchecks, [], []⟩
def d_are_next : He.DefD := ⟨("are_next", none), "are_next", "are_next", defArgs s_are_next, defBody s_are_next, defScope s_are_next, [], []⟩
def d_is_back : He.DefD := ⟨("is_back", none), "is_back", "is_back", defArgs s_is_back, defBody s_is_back, defScope s_is_back, [], []⟩
def d_shortest_holds : He.DefD := ⟨("shortest_holds", none), "shortest_holds", "shortest_holds", defArgs s_shortest_holds, defBody s_shortest_holds, defScope s_shortest_holds, [], []⟩
def d_law_deck : He.DefD := ⟨("_law_deck", none), "_law_deck", "_law_deck", defArgs s_law_deck, defBody s_law_deck, defScope s_law_deck, [], []⟩
def d_law_draw : He.DefD := ⟨("_law_draw", none), "_law_draw", "_law_draw", defArgs s_law_draw, defBody s_law_draw, defScope s_law_draw, [], []⟩
def d_law_ten : He.DefD := ⟨("_law_ten", none), "_law_ten", "_law_ten", defArgs s_law_ten, defBody s_law_ten, defScope s_law_ten, [], []⟩
def d_law_some_number : He.DefD := ⟨("_law_some_number", none), "_law_some_number", "_law_some_number", defArgs s_law_some_number, defBody s_law_some_number, defScope s_law_some_number, [], []⟩
def d_law_some_step : He.DefD := ⟨("_law_some_step", none), "_law_some_step", "_law_some_step", defArgs s_law_some_step, defBody s_law_some_step, defScope s_law_some_step, [], []⟩
def d_law_beyond : He.DefD := ⟨("_law_beyond", none), "_law_beyond", "_law_beyond", defArgs s_law_beyond, defBody s_law_beyond, defScope s_law_beyond, [], []⟩
def d_law_steps : He.DefD := ⟨("_law_steps", none), "_law_steps", "_law_steps", defArgs s_law_steps, defBody s_law_steps, defScope s_law_steps, [], []⟩
def d_law_whole : He.DefD := ⟨("_law_whole", none), "_law_whole", "_law_whole", defArgs s_law_whole, defBody s_law_whole, defScope s_law_whole, [], []⟩
def d_law_round_due : He.DefD := ⟨("_law_round_due", none), "_law_round_due", "_law_round_due", defArgs s_law_round_due, defBody s_law_round_due, defScope s_law_round_due, [], []⟩
def d_law_back : He.DefD := ⟨("_law_back", none), "_law_back", "_law_back", defArgs s_law_back, defBody s_law_back, defScope s_law_back, [], []⟩
def d_law_shortest_due : He.DefD := ⟨("_law_shortest_due", none), "_law_shortest_due", "_law_shortest_due", defArgs s_law_shortest_due, defBody s_law_shortest_due, defScope s_law_shortest_due, [], []⟩
def d_law_together : He.DefD := ⟨("_law_together", none), "_law_together", "_law_together", defArgs s_law_together, defBody s_law_together, defScope s_law_together, [], []⟩
def d_law_put_so : He.DefD := ⟨("_law_put_so", none), "_law_put_so", "_law_put_so", defArgs s_law_put_so, defBody s_law_put_so, defScope s_law_put_so, [], []⟩
def d_law_sum_due : He.DefD := ⟨("_law_sum_due", none), "_law_sum_due", "_law_sum_due", defArgs s_law_sum_due, defBody s_law_sum_due, defScope s_law_sum_due, [], []⟩
def d_law_otherwise : He.DefD := ⟨("_law_otherwise", none), "_law_otherwise", "_law_otherwise", defArgs s_law_otherwise, defBody s_law_otherwise, defScope s_law_otherwise, [], []⟩
def d_law_spoilt : He.DefD := ⟨("_law_spoilt", none), "_law_spoilt", "_law_spoilt", defArgs s_law_spoilt, defBody s_law_spoilt, defScope s_law_spoilt, [], []⟩
def d_law_right : He.DefD := ⟨("_law_right", none), "_law_right", "_law_right", defArgs s_law_right, defBody s_law_right, defScope s_law_right, [], []⟩
def d_law_number : He.DefD := ⟨("_law_number", none), "_law_number", "_law_number", defArgs s_law_number, defBody s_law_number, defScope s_law_number, [], []⟩
def d_law : He.DefD := ⟨("law", none), "law", "law", defArgs s_law, defBody s_law, defScope s_law, [], []⟩
def d_N_init : He.DefD := ⟨("Number", some "__init__"), "__init__", "Number.__init__", defArgs s_N_init, defBody s_N_init, defScope s_N_init, [.int 1], []⟩
def d_N_eq : He.DefD := ⟨("Number", some "__eq__"), "__eq__", "Number.__eq__", defArgs s_N_eq, defBody s_N_eq, defScope s_N_eq, [], []⟩
def d_N_str : He.DefD := ⟨("Number", some "__str__"), "__str__", "Number.__str__", defArgs s_N_str, defBody s_N_str, defScope s_N_str, [], []⟩
def d_N_repr : He.DefD := ⟨("Number", some "__repr__"), "__repr__", "Number.__repr__", defArgs s_N_repr, defBody s_N_repr, defScope s_N_repr, [], []⟩
def d_N_more : He.DefD := ⟨("Number", some "more"), "more", "Number.more", defArgs s_N_more, defBody s_N_more, defScope s_N_more, [], []⟩
def d_N_less : He.DefD := ⟨("Number", some "less"), "less", "Number.less", defArgs s_N_less, defBody s_N_less, defScope s_N_less, [], []⟩
def d_N_times : He.DefD := ⟨("Number", some "times"), "times", "Number.times", defArgs s_N_times, defBody s_N_times, defScope s_N_times, [], []⟩
def d_N_over : He.DefD := ⟨("Number", some "over"), "over", "Number.over", defArgs s_N_over, defBody s_N_over, defScope s_N_over, [], []⟩
def d_N_below : He.DefD := ⟨("Number", some "below"), "below", "Number.below", defArgs s_N_below, defBody s_N_below, defScope s_N_below, [], []⟩
def d_N_size : He.DefD := ⟨("Number", some "size"), "size", "Number.size", defArgs s_N_size, defBody s_N_size, defScope s_N_size, [], []⟩
def d_N_floor : He.DefD := ⟨("Number", some "floor"), "floor", "Number.floor", defArgs s_N_floor, defBody s_N_floor, defScope s_N_floor, [], []⟩
def fn : List He.DefD := [d_divisor_of, d_ten, d_by_ten, d_power_of, d_by_half, d_goes_up, d_goes_down, d_goes_high, d_goes_low, d_goes_half_up, d_goes_half_down, d_goes_half_even, d_goes_half_odd, d_counts_of, d_count_by, d_rounded, d_round_paper, d_sum_of, d_steps_of, d_beyond_of, d_first_greatest, d_parts_rounded, d_is_whole_sumchecks, d_is_threshold, d_is_put_so, d_sum_holds, d_is_whole_roundchecks, d_is_tie, d_is_greater, d_round_holds, d_ten_to, d_leads_back, d_counts_near, d_shortest, d_is_whole_shortchecks, d_are_next, d_is_back, d_shortest_holds, d_law_deck, d_law_draw, d_law_ten, d_law_some_number, d_law_some_step, d_law_beyond, d_law_steps, d_law_whole, d_law_round_due, d_law_back, d_law_shortest_due, d_law_together, d_law_put_so, d_law_sum_due, d_law_otherwise, d_law_spoilt, d_law_right, d_law_number, d_law, d_N_init, d_N_eq, d_N_str, d_N_repr, d_N_more, d_N_less, d_N_times, d_N_over, d_N_below, d_N_size, d_N_floor]
def fa : List He.Fa := [.glo "divisor_of", .glo "ten", .glo "by_ten", .glo "power_of", .glo "by_half", .glo "goes_up", .glo "goes_down", .glo "goes_high", .glo "goes_low", .glo "goes_half_up", .glo "goes_half_down", .glo "goes_half_even", .glo "goes_half_odd", .glo "counts_of", .glo "count_by", .glo "rounded", .glo "round_paper", .glo "sum_of", .glo "steps_of", .glo "beyond_of", .glo "first_greatest", .glo "parts_rounded", .glo "is_whole_sumchecks", .glo "is_threshold", .glo "is_put_so", .glo "sum_holds", .glo "is_whole_roundchecks", .glo "is_tie", .glo "is_greater", .glo "round_holds", .glo "ten_to", .glo "leads_back", .glo "counts_near", .glo "shortest", .glo "is_whole_shortchecks", .glo "are_next", .glo "is_back", .glo "shortest_holds", .glo "_law_deck", .glo "_law_draw", .glo "_law_ten", .glo "_law_some_number", .glo "_law_some_step", .glo "_law_beyond", .glo "_law_steps", .glo "_law_whole", .glo "_law_round_due", .glo "_law_back", .glo "_law_shortest_due", .glo "_law_together", .glo "_law_put_so", .glo "_law_sum_due", .glo "_law_otherwise", .glo "_law_spoilt", .glo "_law_right", .glo "_law_number", .glo "law", .glo "Number", .glo "RULES", .str "WAY" "half even", .int "HALF" 2, .cls "Number", .noat "Number" "top", .noat "Number" "bottom", .mkr "Number", .meth "Number" "__init__", .meth "Number" "__eq__", .meth "Number" "__str__", .meth "Number" "__repr__", .meth "Number" "more", .meth "Number" "less", .meth "Number" "times", .meth "Number" "over", .meth "Number" "below", .meth "Number" "size", .meth "Number" "floor", .free "abs", .free "int", .free "len", .free "str", .free "isinstance", .free "bool", .free "tuple", .free "max", .free "min", .free "sum", .free "all", .free "any", .free "zip", .free "enumerate", .free "range", .free "list", .free "repr"]
def rules : List Str := ["up", "down", "high", "low", "half up", "half down", "half even", "half odd"]
def ruleFns : List (Str × He.Dv) := [("up", .glo "goes_up"), ("down", .glo "goes_down"), ("high", .glo "goes_high"), ("low", .glo "goes_low"), ("half up", .glo "goes_half_up"), ("half down", .glo "goes_half_down"), ("half even", .glo "goes_half_even"), ("half odd", .glo "goes_half_odd")]
def ts : List He.Tab := [(fun K => He.ga K "RULES", rules)]
def tf : List He.Defn := [("law", none)]
def isoB (K : PySem.W.Frag) (a b : Value) (r : Bool) : Bool := decide (PySem.W.kitOne K a b = some r)
def tyNames : List String := ["NoneType", "bool", "int", "str", "list", "tuple", "dict"]
def exB (K : PySem.W.Frag) : Bool :=
  He.valsB K (He.ga K "RULES") ruleFns &&
  (tyNames.all fun a => isoB K (.type a) (.ref (He.ga K "Number")) false) &&
  (["int", "bool", "tuple", "str"].all fun a => isoB K (.ref (He.ga K "Number")) (.type a) false) &&
  isoB K (.ref (He.ga K "Number")) (.ref (He.ga K "Number")) true &&
  He.eqO (PySem.W.findIn K (.ref (He.ga K "Number")) "__class__") (some (some (.builtin "object.__class__"))) &&
  He.eqO (PySem.W.findIn K (.ref (He.ga K "Number")) "__ne__") (some (some (.builtin "object.__ne__"))) &&
  He.eqO (PySem.W.specialIn K (.builtin "object.__class__") "__get__") (some (some (.builtin "getset_descriptor.__get__"))) &&
  decide (PySem.W.takesIn K (.builtin "object.__class__") = some true) &&
  decide (PySem.W.mroIn K (He.ga K "Number") (.type "object") = some true)
abbrev hk : PySem.W.Hook := He.hookX 5 fa fn ts tf exB
def ob (s : PySem.W.SharedT) : He.AlX := He.obsX 5 fa fn ts tf exB (HandSHeadRun.getT s)
theorem ob_eq (s : PySem.W.SharedT) : ob s = hk.obs s.abs := He.obsX_eq (HandSHeadRun.getT_eq s)
def loose : List Str := (["NoBottom", "divisor_of", "ten", "Number", "by_ten", "power_of", "WAY", "HALF", "by_half", "goes_up", "goes_down", "goes_high", "goes_low", "goes_half_up", "goes_half_down", "goes_half_even", "goes_half_odd", "RULES", "counts_of", "count_by", "rounded", "round_paper", "sum_of", "steps_of", "beyond_of", "first_greatest", "parts_rounded", "is_whole", "is_whole_sumchecks", "is_threshold"] : List Str) ++ (["is_put_so", "sum_holds", "is_whole_roundchecks", "is_tie", "is_greater", "round_holds", "ten_to", "leads_back", "counts_near", "shortest", "is_whole_shortchecks", "are_next", "is_back", "shortest_holds", "_law_deck", "_law_draw", "_law_ten", "_law_some_number", "_law_some_step", "_law_beyond", "_law_steps", "_law_whole", "_law_round_due", "_law_back", "_law_shortest_due", "_law_together", "_law_put_so", "_law_sum_due", "_law_otherwise", "_law_spoilt"] : List Str) ++ (["_law_right", "_law_number"] : List Str)
abbrev R : PySem.W.OpenRow := PySem.W.OpenLaw.row PySem.Challenge.rw_figuretexts_k96_whole_spoilt_anywhere
theorem run_f (w : World) : HandSHeadRun.RunEq R (PySem.W.view R.prog [74]) hk ob 20000 loose (w.withFollow "special-get-raises" false) := by
  intro os
  kernel_rfl
theorem run_t (w : World) : HandSHeadRun.RunEq R (PySem.W.view R.prog [74]) hk ob 20000 loose (w.withFollow "special-get-raises" true) := by
  intro os
  kernel_rfl
theorem run (w : World) : HandSHeadRun.RunEq R (PySem.W.view R.prog [74]) hk ob 20000 loose w :=
  PySem.W.byRow2 "special-get-raises" (P := fun w => HandSHeadRun.RunEq R (PySem.W.view R.prog [74]) hk ob 20000 loose w) run_f run_t w
end Fg
set_option Elab.async false
set_option linter.all false
set_option maxRecDepth 100000
set_option maxHeartbeats 4000000
namespace Fg
open PySem PySem.Spec PyProof.Rows L2
/-- what the walks ask of the top: K the objects that it left, mg the module's names -/
structure Tx (w : World) (K : PySem.W.Frag) (mg : Str → Option Value) : Prop where
  says : He.SaysT fa fn ts w K
  ex : exB K = true
  glo : ∀ x : Str, (He.Fa.glo x).ok K = true → mg x = some (.ref (He.ga K x))
  free : ∀ x : Str, (He.Fa.free x).ok K = true → mg x = none
  way : ∃ t, mg "WAY" = some (.str "half even" t)
  hlf : ∃ t, mg "HALF" = some (.int 2 t)
abbrev CN (K : PySem.W.Frag) : Addr := He.ga K "Number"
theorem Tx.of {w : World} {K : PySem.W.Frag} {h : Heap} {mg : Str → Option Value} (KX : K.In h) (G : h.Ns mainGlobals mg) (c : He.SaysX fa fn ts tf exB w h K) : Tx w K mg := by
  have d := c.t.d
  exact ⟨c.t, c.more, fun x z => He.glo_ok KX G z, fun x z => He.free_ok KX G z, He.str_ok KX G (d.fact 59 (f := .str "WAY" "half even") rfl), He.int_ok KX G (d.fact 60 (f := .int "HALF" 2) rfl)⟩
section
variable {w : World} {K : PySem.W.Frag} {mg : Str → Option Value}
theorem Tx.g_divisor_of (T : Tx w K mg) : mg "divisor_of" = some (.ref (He.ga K "divisor_of")) := T.glo _ (T.says.d.fact 0 (f := .glo "divisor_of") rfl)
theorem Tx.g_ten (T : Tx w K mg) : mg "ten" = some (.ref (He.ga K "ten")) := T.glo _ (T.says.d.fact 1 (f := .glo "ten") rfl)
theorem Tx.g_by_ten (T : Tx w K mg) : mg "by_ten" = some (.ref (He.ga K "by_ten")) := T.glo _ (T.says.d.fact 2 (f := .glo "by_ten") rfl)
theorem Tx.g_power_of (T : Tx w K mg) : mg "power_of" = some (.ref (He.ga K "power_of")) := T.glo _ (T.says.d.fact 3 (f := .glo "power_of") rfl)
theorem Tx.g_by_half (T : Tx w K mg) : mg "by_half" = some (.ref (He.ga K "by_half")) := T.glo _ (T.says.d.fact 4 (f := .glo "by_half") rfl)
theorem Tx.g_goes_up (T : Tx w K mg) : mg "goes_up" = some (.ref (He.ga K "goes_up")) := T.glo _ (T.says.d.fact 5 (f := .glo "goes_up") rfl)
theorem Tx.g_goes_down (T : Tx w K mg) : mg "goes_down" = some (.ref (He.ga K "goes_down")) := T.glo _ (T.says.d.fact 6 (f := .glo "goes_down") rfl)
theorem Tx.g_goes_high (T : Tx w K mg) : mg "goes_high" = some (.ref (He.ga K "goes_high")) := T.glo _ (T.says.d.fact 7 (f := .glo "goes_high") rfl)
theorem Tx.g_goes_low (T : Tx w K mg) : mg "goes_low" = some (.ref (He.ga K "goes_low")) := T.glo _ (T.says.d.fact 8 (f := .glo "goes_low") rfl)
theorem Tx.g_goes_half_up (T : Tx w K mg) : mg "goes_half_up" = some (.ref (He.ga K "goes_half_up")) := T.glo _ (T.says.d.fact 9 (f := .glo "goes_half_up") rfl)
theorem Tx.g_goes_half_down (T : Tx w K mg) : mg "goes_half_down" = some (.ref (He.ga K "goes_half_down")) := T.glo _ (T.says.d.fact 10 (f := .glo "goes_half_down") rfl)
theorem Tx.g_goes_half_even (T : Tx w K mg) : mg "goes_half_even" = some (.ref (He.ga K "goes_half_even")) := T.glo _ (T.says.d.fact 11 (f := .glo "goes_half_even") rfl)
theorem Tx.g_goes_half_odd (T : Tx w K mg) : mg "goes_half_odd" = some (.ref (He.ga K "goes_half_odd")) := T.glo _ (T.says.d.fact 12 (f := .glo "goes_half_odd") rfl)
theorem Tx.g_counts_of (T : Tx w K mg) : mg "counts_of" = some (.ref (He.ga K "counts_of")) := T.glo _ (T.says.d.fact 13 (f := .glo "counts_of") rfl)
theorem Tx.g_count_by (T : Tx w K mg) : mg "count_by" = some (.ref (He.ga K "count_by")) := T.glo _ (T.says.d.fact 14 (f := .glo "count_by") rfl)
theorem Tx.g_rounded (T : Tx w K mg) : mg "rounded" = some (.ref (He.ga K "rounded")) := T.glo _ (T.says.d.fact 15 (f := .glo "rounded") rfl)
theorem Tx.g_round_paper (T : Tx w K mg) : mg "round_paper" = some (.ref (He.ga K "round_paper")) := T.glo _ (T.says.d.fact 16 (f := .glo "round_paper") rfl)
theorem Tx.g_sum_of (T : Tx w K mg) : mg "sum_of" = some (.ref (He.ga K "sum_of")) := T.glo _ (T.says.d.fact 17 (f := .glo "sum_of") rfl)
theorem Tx.g_steps_of (T : Tx w K mg) : mg "steps_of" = some (.ref (He.ga K "steps_of")) := T.glo _ (T.says.d.fact 18 (f := .glo "steps_of") rfl)
theorem Tx.g_beyond_of (T : Tx w K mg) : mg "beyond_of" = some (.ref (He.ga K "beyond_of")) := T.glo _ (T.says.d.fact 19 (f := .glo "beyond_of") rfl)
theorem Tx.g_first_greatest (T : Tx w K mg) : mg "first_greatest" = some (.ref (He.ga K "first_greatest")) := T.glo _ (T.says.d.fact 20 (f := .glo "first_greatest") rfl)
theorem Tx.g_parts_rounded (T : Tx w K mg) : mg "parts_rounded" = some (.ref (He.ga K "parts_rounded")) := T.glo _ (T.says.d.fact 21 (f := .glo "parts_rounded") rfl)
theorem Tx.g_is_whole_sumchecks (T : Tx w K mg) : mg "is_whole_sumchecks" = some (.ref (He.ga K "is_whole_sumchecks")) := T.glo _ (T.says.d.fact 22 (f := .glo "is_whole_sumchecks") rfl)
theorem Tx.g_is_threshold (T : Tx w K mg) : mg "is_threshold" = some (.ref (He.ga K "is_threshold")) := T.glo _ (T.says.d.fact 23 (f := .glo "is_threshold") rfl)
theorem Tx.g_is_put_so (T : Tx w K mg) : mg "is_put_so" = some (.ref (He.ga K "is_put_so")) := T.glo _ (T.says.d.fact 24 (f := .glo "is_put_so") rfl)
theorem Tx.g_sum_holds (T : Tx w K mg) : mg "sum_holds" = some (.ref (He.ga K "sum_holds")) := T.glo _ (T.says.d.fact 25 (f := .glo "sum_holds") rfl)
theorem Tx.g_is_whole_roundchecks (T : Tx w K mg) : mg "is_whole_roundchecks" = some (.ref (He.ga K "is_whole_roundchecks")) := T.glo _ (T.says.d.fact 26 (f := .glo "is_whole_roundchecks") rfl)
theorem Tx.g_is_tie (T : Tx w K mg) : mg "is_tie" = some (.ref (He.ga K "is_tie")) := T.glo _ (T.says.d.fact 27 (f := .glo "is_tie") rfl)
theorem Tx.g_is_greater (T : Tx w K mg) : mg "is_greater" = some (.ref (He.ga K "is_greater")) := T.glo _ (T.says.d.fact 28 (f := .glo "is_greater") rfl)
theorem Tx.g_round_holds (T : Tx w K mg) : mg "round_holds" = some (.ref (He.ga K "round_holds")) := T.glo _ (T.says.d.fact 29 (f := .glo "round_holds") rfl)
theorem Tx.g_ten_to (T : Tx w K mg) : mg "ten_to" = some (.ref (He.ga K "ten_to")) := T.glo _ (T.says.d.fact 30 (f := .glo "ten_to") rfl)
theorem Tx.g_leads_back (T : Tx w K mg) : mg "leads_back" = some (.ref (He.ga K "leads_back")) := T.glo _ (T.says.d.fact 31 (f := .glo "leads_back") rfl)
theorem Tx.g_counts_near (T : Tx w K mg) : mg "counts_near" = some (.ref (He.ga K "counts_near")) := T.glo _ (T.says.d.fact 32 (f := .glo "counts_near") rfl)
theorem Tx.g_shortest (T : Tx w K mg) : mg "shortest" = some (.ref (He.ga K "shortest")) := T.glo _ (T.says.d.fact 33 (f := .glo "shortest") rfl)
theorem Tx.g_is_whole_shortchecks (T : Tx w K mg) : mg "is_whole_shortchecks" = some (.ref (He.ga K "is_whole_shortchecks")) := T.glo _ (T.says.d.fact 34 (f := .glo "is_whole_shortchecks") rfl)
theorem Tx.g_are_next (T : Tx w K mg) : mg "are_next" = some (.ref (He.ga K "are_next")) := T.glo _ (T.says.d.fact 35 (f := .glo "are_next") rfl)
theorem Tx.g_is_back (T : Tx w K mg) : mg "is_back" = some (.ref (He.ga K "is_back")) := T.glo _ (T.says.d.fact 36 (f := .glo "is_back") rfl)
theorem Tx.g_shortest_holds (T : Tx w K mg) : mg "shortest_holds" = some (.ref (He.ga K "shortest_holds")) := T.glo _ (T.says.d.fact 37 (f := .glo "shortest_holds") rfl)
theorem Tx.g_law_deck (T : Tx w K mg) : mg "_law_deck" = some (.ref (He.ga K "_law_deck")) := T.glo _ (T.says.d.fact 38 (f := .glo "_law_deck") rfl)
theorem Tx.g_law_draw (T : Tx w K mg) : mg "_law_draw" = some (.ref (He.ga K "_law_draw")) := T.glo _ (T.says.d.fact 39 (f := .glo "_law_draw") rfl)
theorem Tx.g_law_ten (T : Tx w K mg) : mg "_law_ten" = some (.ref (He.ga K "_law_ten")) := T.glo _ (T.says.d.fact 40 (f := .glo "_law_ten") rfl)
theorem Tx.g_law_some_number (T : Tx w K mg) : mg "_law_some_number" = some (.ref (He.ga K "_law_some_number")) := T.glo _ (T.says.d.fact 41 (f := .glo "_law_some_number") rfl)
theorem Tx.g_law_some_step (T : Tx w K mg) : mg "_law_some_step" = some (.ref (He.ga K "_law_some_step")) := T.glo _ (T.says.d.fact 42 (f := .glo "_law_some_step") rfl)
theorem Tx.g_law_beyond (T : Tx w K mg) : mg "_law_beyond" = some (.ref (He.ga K "_law_beyond")) := T.glo _ (T.says.d.fact 43 (f := .glo "_law_beyond") rfl)
theorem Tx.g_law_steps (T : Tx w K mg) : mg "_law_steps" = some (.ref (He.ga K "_law_steps")) := T.glo _ (T.says.d.fact 44 (f := .glo "_law_steps") rfl)
theorem Tx.g_law_whole (T : Tx w K mg) : mg "_law_whole" = some (.ref (He.ga K "_law_whole")) := T.glo _ (T.says.d.fact 45 (f := .glo "_law_whole") rfl)
theorem Tx.g_law_round_due (T : Tx w K mg) : mg "_law_round_due" = some (.ref (He.ga K "_law_round_due")) := T.glo _ (T.says.d.fact 46 (f := .glo "_law_round_due") rfl)
theorem Tx.g_law_back (T : Tx w K mg) : mg "_law_back" = some (.ref (He.ga K "_law_back")) := T.glo _ (T.says.d.fact 47 (f := .glo "_law_back") rfl)
theorem Tx.g_law_shortest_due (T : Tx w K mg) : mg "_law_shortest_due" = some (.ref (He.ga K "_law_shortest_due")) := T.glo _ (T.says.d.fact 48 (f := .glo "_law_shortest_due") rfl)
theorem Tx.g_law_together (T : Tx w K mg) : mg "_law_together" = some (.ref (He.ga K "_law_together")) := T.glo _ (T.says.d.fact 49 (f := .glo "_law_together") rfl)
theorem Tx.g_law_put_so (T : Tx w K mg) : mg "_law_put_so" = some (.ref (He.ga K "_law_put_so")) := T.glo _ (T.says.d.fact 50 (f := .glo "_law_put_so") rfl)
theorem Tx.g_law_sum_due (T : Tx w K mg) : mg "_law_sum_due" = some (.ref (He.ga K "_law_sum_due")) := T.glo _ (T.says.d.fact 51 (f := .glo "_law_sum_due") rfl)
theorem Tx.g_law_otherwise (T : Tx w K mg) : mg "_law_otherwise" = some (.ref (He.ga K "_law_otherwise")) := T.glo _ (T.says.d.fact 52 (f := .glo "_law_otherwise") rfl)
theorem Tx.g_law_spoilt (T : Tx w K mg) : mg "_law_spoilt" = some (.ref (He.ga K "_law_spoilt")) := T.glo _ (T.says.d.fact 53 (f := .glo "_law_spoilt") rfl)
theorem Tx.g_law_right (T : Tx w K mg) : mg "_law_right" = some (.ref (He.ga K "_law_right")) := T.glo _ (T.says.d.fact 54 (f := .glo "_law_right") rfl)
theorem Tx.g_law_number (T : Tx w K mg) : mg "_law_number" = some (.ref (He.ga K "_law_number")) := T.glo _ (T.says.d.fact 55 (f := .glo "_law_number") rfl)
theorem Tx.g_law (T : Tx w K mg) : mg "law" = some (.ref (He.ga K "law")) := T.glo _ (T.says.d.fact 56 (f := .glo "law") rfl)
theorem Tx.g_Number (T : Tx w K mg) : mg "Number" = some (.ref (He.ga K "Number")) := T.glo _ (T.says.d.fact 57 (f := .glo "Number") rfl)
theorem Tx.g_RULES (T : Tx w K mg) : mg "RULES" = some (.ref (He.ga K "RULES")) := T.glo _ (T.says.d.fact 58 (f := .glo "RULES") rfl)
theorem Tx.cls (T : Tx w K mg) : Cls K (CN K) := He.cls_ok (T.says.d.fact 61 (f := .cls "Number") rfl)
theorem Tx.no_top (T : Tx w K mg) : NoAttr K (CN K) "top" := He.noat_ok (T.says.d.fact 62 (f := .noat "Number" "top") rfl)
theorem Tx.no_bottom (T : Tx w K mg) : NoAttr K (CN K) "bottom" := He.noat_ok (T.says.d.fact 63 (f := .noat "Number" "bottom") rfl)
theorem Tx.mkr (T : Tx w K mg) : Mk K (CN K) (He.ma K (CN K) "__init__") := He.mkr_ok (T.says.d.fact 64 (f := .mkr "Number") rfl)
theorem Tx.m_init (T : Tx w K mg) : Meth K (CN K) "__init__" (He.ma K (CN K) "__init__") := He.meth_ok (T.says.d.fact 65 (f := .meth "Number" "__init__") rfl)
theorem Tx.m_eq (T : Tx w K mg) : Meth K (CN K) "__eq__" (He.ma K (CN K) "__eq__") := He.meth_ok (T.says.d.fact 66 (f := .meth "Number" "__eq__") rfl)
theorem Tx.m_str (T : Tx w K mg) : Meth K (CN K) "__str__" (He.ma K (CN K) "__str__") := He.meth_ok (T.says.d.fact 67 (f := .meth "Number" "__str__") rfl)
theorem Tx.m_repr (T : Tx w K mg) : Meth K (CN K) "__repr__" (He.ma K (CN K) "__repr__") := He.meth_ok (T.says.d.fact 68 (f := .meth "Number" "__repr__") rfl)
theorem Tx.m_more (T : Tx w K mg) : Meth K (CN K) "more" (He.ma K (CN K) "more") := He.meth_ok (T.says.d.fact 69 (f := .meth "Number" "more") rfl)
theorem Tx.m_less (T : Tx w K mg) : Meth K (CN K) "less" (He.ma K (CN K) "less") := He.meth_ok (T.says.d.fact 70 (f := .meth "Number" "less") rfl)
theorem Tx.m_times (T : Tx w K mg) : Meth K (CN K) "times" (He.ma K (CN K) "times") := He.meth_ok (T.says.d.fact 71 (f := .meth "Number" "times") rfl)
theorem Tx.m_over (T : Tx w K mg) : Meth K (CN K) "over" (He.ma K (CN K) "over") := He.meth_ok (T.says.d.fact 72 (f := .meth "Number" "over") rfl)
theorem Tx.m_below (T : Tx w K mg) : Meth K (CN K) "below" (He.ma K (CN K) "below") := He.meth_ok (T.says.d.fact 73 (f := .meth "Number" "below") rfl)
theorem Tx.m_size (T : Tx w K mg) : Meth K (CN K) "size" (He.ma K (CN K) "size") := He.meth_ok (T.says.d.fact 74 (f := .meth "Number" "size") rfl)
theorem Tx.m_floor (T : Tx w K mg) : Meth K (CN K) "floor" (He.ma K (CN K) "floor") := He.meth_ok (T.says.d.fact 75 (f := .meth "Number" "floor") rfl)
theorem Tx.n_abs (T : Tx w K mg) : mg "abs" = none := T.free _ (T.says.d.fact 76 (f := .free "abs") rfl)
theorem Tx.n_int (T : Tx w K mg) : mg "int" = none := T.free _ (T.says.d.fact 77 (f := .free "int") rfl)
theorem Tx.n_len (T : Tx w K mg) : mg "len" = none := T.free _ (T.says.d.fact 78 (f := .free "len") rfl)
theorem Tx.n_str (T : Tx w K mg) : mg "str" = none := T.free _ (T.says.d.fact 79 (f := .free "str") rfl)
theorem Tx.n_isinstance (T : Tx w K mg) : mg "isinstance" = none := T.free _ (T.says.d.fact 80 (f := .free "isinstance") rfl)
theorem Tx.n_bool (T : Tx w K mg) : mg "bool" = none := T.free _ (T.says.d.fact 81 (f := .free "bool") rfl)
theorem Tx.n_tuple (T : Tx w K mg) : mg "tuple" = none := T.free _ (T.says.d.fact 82 (f := .free "tuple") rfl)
theorem Tx.n_max (T : Tx w K mg) : mg "max" = none := T.free _ (T.says.d.fact 83 (f := .free "max") rfl)
theorem Tx.n_min (T : Tx w K mg) : mg "min" = none := T.free _ (T.says.d.fact 84 (f := .free "min") rfl)
theorem Tx.n_sum (T : Tx w K mg) : mg "sum" = none := T.free _ (T.says.d.fact 85 (f := .free "sum") rfl)
theorem Tx.n_all (T : Tx w K mg) : mg "all" = none := T.free _ (T.says.d.fact 86 (f := .free "all") rfl)
theorem Tx.n_any (T : Tx w K mg) : mg "any" = none := T.free _ (T.says.d.fact 87 (f := .free "any") rfl)
theorem Tx.n_zip (T : Tx w K mg) : mg "zip" = none := T.free _ (T.says.d.fact 88 (f := .free "zip") rfl)
theorem Tx.n_enumerate (T : Tx w K mg) : mg "enumerate" = none := T.free _ (T.says.d.fact 89 (f := .free "enumerate") rfl)
theorem Tx.n_range (T : Tx w K mg) : mg "range" = none := T.free _ (T.says.d.fact 90 (f := .free "range") rfl)
theorem Tx.n_list (T : Tx w K mg) : mg "list" = none := T.free _ (T.says.d.fact 91 (f := .free "list") rfl)
theorem Tx.n_repr (T : Tx w K mg) : mg "repr" = none := T.free _ (T.says.d.fact 92 (f := .free "repr") rfl)
theorem Tx.q_divisor_of (T : Tx w K mg) : ∃ fd, FunD K "divisor_of" "divisor_of" (defArgs s_divisor_of) (defBody s_divisor_of) (defScope s_divisor_of) [] [] (He.ga K "divisor_of") fd := T.says.d.def_ 0 (d := Fg.d_divisor_of) rfl
theorem Tx.q_ten (T : Tx w K mg) : ∃ fd, FunD K "ten" "ten" (defArgs s_ten) (defBody s_ten) (defScope s_ten) [] [] (He.ga K "ten") fd := T.says.d.def_ 1 (d := Fg.d_ten) rfl
theorem Tx.q_by_ten (T : Tx w K mg) : ∃ fd, FunD K "by_ten" "by_ten" (defArgs s_by_ten) (defBody s_by_ten) (defScope s_by_ten) [] [] (He.ga K "by_ten") fd := T.says.d.def_ 2 (d := Fg.d_by_ten) rfl
theorem Tx.q_power_of (T : Tx w K mg) : ∃ fd, FunD K "power_of" "power_of" (defArgs s_power_of) (defBody s_power_of) (defScope s_power_of) [] [] (He.ga K "power_of") fd := T.says.d.def_ 3 (d := Fg.d_power_of) rfl
theorem Tx.q_by_half (T : Tx w K mg) : ∃ fd, FunD K "by_half" "by_half" (defArgs s_by_half) (defBody s_by_half) (defScope s_by_half) [] [] (He.ga K "by_half") fd := T.says.d.def_ 4 (d := Fg.d_by_half) rfl
theorem Tx.q_goes_up (T : Tx w K mg) : ∃ fd, FunD K "goes_up" "goes_up" (defArgs s_goes_up) (defBody s_goes_up) (defScope s_goes_up) [] [] (He.ga K "goes_up") fd := T.says.d.def_ 5 (d := Fg.d_goes_up) rfl
theorem Tx.q_goes_down (T : Tx w K mg) : ∃ fd, FunD K "goes_down" "goes_down" (defArgs s_goes_down) (defBody s_goes_down) (defScope s_goes_down) [] [] (He.ga K "goes_down") fd := T.says.d.def_ 6 (d := Fg.d_goes_down) rfl
theorem Tx.q_goes_high (T : Tx w K mg) : ∃ fd, FunD K "goes_high" "goes_high" (defArgs s_goes_high) (defBody s_goes_high) (defScope s_goes_high) [] [] (He.ga K "goes_high") fd := T.says.d.def_ 7 (d := Fg.d_goes_high) rfl
theorem Tx.q_goes_low (T : Tx w K mg) : ∃ fd, FunD K "goes_low" "goes_low" (defArgs s_goes_low) (defBody s_goes_low) (defScope s_goes_low) [] [] (He.ga K "goes_low") fd := T.says.d.def_ 8 (d := Fg.d_goes_low) rfl
theorem Tx.q_goes_half_up (T : Tx w K mg) : ∃ fd, FunD K "goes_half_up" "goes_half_up" (defArgs s_goes_half_up) (defBody s_goes_half_up) (defScope s_goes_half_up) [] [] (He.ga K "goes_half_up") fd := T.says.d.def_ 9 (d := Fg.d_goes_half_up) rfl
theorem Tx.q_goes_half_down (T : Tx w K mg) : ∃ fd, FunD K "goes_half_down" "goes_half_down" (defArgs s_goes_half_down) (defBody s_goes_half_down) (defScope s_goes_half_down) [] [] (He.ga K "goes_half_down") fd := T.says.d.def_ 10 (d := Fg.d_goes_half_down) rfl
theorem Tx.q_goes_half_even (T : Tx w K mg) : ∃ fd, FunD K "goes_half_even" "goes_half_even" (defArgs s_goes_half_even) (defBody s_goes_half_even) (defScope s_goes_half_even) [] [] (He.ga K "goes_half_even") fd := T.says.d.def_ 11 (d := Fg.d_goes_half_even) rfl
theorem Tx.q_goes_half_odd (T : Tx w K mg) : ∃ fd, FunD K "goes_half_odd" "goes_half_odd" (defArgs s_goes_half_odd) (defBody s_goes_half_odd) (defScope s_goes_half_odd) [] [] (He.ga K "goes_half_odd") fd := T.says.d.def_ 12 (d := Fg.d_goes_half_odd) rfl
theorem Tx.q_counts_of (T : Tx w K mg) : ∃ fd, FunD K "counts_of" "counts_of" (defArgs s_counts_of) (defBody s_counts_of) (defScope s_counts_of) [] [] (He.ga K "counts_of") fd := T.says.d.def_ 13 (d := Fg.d_counts_of) rfl
theorem Tx.q_count_by (T : Tx w K mg) : ∃ fd, FunD K "count_by" "count_by" (defArgs s_count_by) (defBody s_count_by) (defScope s_count_by) [] [] (He.ga K "count_by") fd := T.says.d.def_ 14 (d := Fg.d_count_by) rfl
theorem Tx.q_rounded (T : Tx w K mg) : ∃ fd, FunD K "rounded" "rounded" (defArgs s_rounded) (defBody s_rounded) (defScope s_rounded) [] [("way", V.str "half even")] (He.ga K "rounded") fd := T.says.d.def_ 15 (d := Fg.d_rounded) rfl
theorem Tx.q_round_paper (T : Tx w K mg) : ∃ fd, FunD K "round_paper" "round_paper" (defArgs s_round_paper) (defBody s_round_paper) (defScope s_round_paper) [] [("way", V.str "half even")] (He.ga K "round_paper") fd := T.says.d.def_ 16 (d := Fg.d_round_paper) rfl
theorem Tx.q_sum_of (T : Tx w K mg) : ∃ fd, FunD K "sum_of" "sum_of" (defArgs s_sum_of) (defBody s_sum_of) (defScope s_sum_of) [] [] (He.ga K "sum_of") fd := T.says.d.def_ 17 (d := Fg.d_sum_of) rfl
theorem Tx.q_steps_of (T : Tx w K mg) : ∃ fd, FunD K "steps_of" "steps_of" (defArgs s_steps_of) (defBody s_steps_of) (defScope s_steps_of) [] [] (He.ga K "steps_of") fd := T.says.d.def_ 18 (d := Fg.d_steps_of) rfl
theorem Tx.q_beyond_of (T : Tx w K mg) : ∃ fd, FunD K "beyond_of" "beyond_of" (defArgs s_beyond_of) (defBody s_beyond_of) (defScope s_beyond_of) [] [] (He.ga K "beyond_of") fd := T.says.d.def_ 19 (d := Fg.d_beyond_of) rfl
theorem Tx.q_first_greatest (T : Tx w K mg) : ∃ fd, FunD K "first_greatest" "first_greatest" (defArgs s_first_greatest) (defBody s_first_greatest) (defScope s_first_greatest) [] [] (He.ga K "first_greatest") fd := T.says.d.def_ 20 (d := Fg.d_first_greatest) rfl
theorem Tx.q_parts_rounded (T : Tx w K mg) : ∃ fd, FunD K "parts_rounded" "parts_rounded" (defArgs s_parts_rounded) (defBody s_parts_rounded) (defScope s_parts_rounded) [] [] (He.ga K "parts_rounded") fd := T.says.d.def_ 21 (d := Fg.d_parts_rounded) rfl
theorem Tx.q_is_whole_sumchecks (T : Tx w K mg) : ∃ fd, FunD K "is_whole" "is_whole" (defArgs s_is_whole_sumchecks) (defBody s_is_whole_sumchecks) (defScope s_is_whole_sumchecks) [] [] (He.ga K "is_whole_sumchecks") fd := T.says.d.def_ 22 (d := Fg.d_is_whole_sumchecks) rfl
theorem Tx.q_is_threshold (T : Tx w K mg) : ∃ fd, FunD K "is_threshold" "is_threshold" (defArgs s_is_threshold) (defBody s_is_threshold) (defScope s_is_threshold) [] [] (He.ga K "is_threshold") fd := T.says.d.def_ 23 (d := Fg.d_is_threshold) rfl
theorem Tx.q_is_put_so (T : Tx w K mg) : ∃ fd, FunD K "is_put_so" "is_put_so" (defArgs s_is_put_so) (defBody s_is_put_so) (defScope s_is_put_so) [] [] (He.ga K "is_put_so") fd := T.says.d.def_ 24 (d := Fg.d_is_put_so) rfl
theorem Tx.q_sum_holds (T : Tx w K mg) : ∃ fd, FunD K "sum_holds" "sum_holds" (defArgs s_sum_holds) (defBody s_sum_holds) (defScope s_sum_holds) [] [] (He.ga K "sum_holds") fd := T.says.d.def_ 25 (d := Fg.d_sum_holds) rfl
theorem Tx.q_is_whole_roundchecks (T : Tx w K mg) : ∃ fd, FunD K "is_whole" "is_whole" (defArgs s_is_whole_roundchecks) (defBody s_is_whole_roundchecks) (defScope s_is_whole_roundchecks) [] [] (He.ga K "is_whole_roundchecks") fd := T.says.d.def_ 26 (d := Fg.d_is_whole_roundchecks) rfl
theorem Tx.q_is_tie (T : Tx w K mg) : ∃ fd, FunD K "is_tie" "is_tie" (defArgs s_is_tie) (defBody s_is_tie) (defScope s_is_tie) [] [] (He.ga K "is_tie") fd := T.says.d.def_ 27 (d := Fg.d_is_tie) rfl
theorem Tx.q_is_greater (T : Tx w K mg) : ∃ fd, FunD K "is_greater" "is_greater" (defArgs s_is_greater) (defBody s_is_greater) (defScope s_is_greater) [] [] (He.ga K "is_greater") fd := T.says.d.def_ 28 (d := Fg.d_is_greater) rfl
theorem Tx.q_round_holds (T : Tx w K mg) : ∃ fd, FunD K "round_holds" "round_holds" (defArgs s_round_holds) (defBody s_round_holds) (defScope s_round_holds) [] [] (He.ga K "round_holds") fd := T.says.d.def_ 29 (d := Fg.d_round_holds) rfl
theorem Tx.q_ten_to (T : Tx w K mg) : ∃ fd, FunD K "ten_to" "ten_to" (defArgs s_ten_to) (defBody s_ten_to) (defScope s_ten_to) [] [] (He.ga K "ten_to") fd := T.says.d.def_ 30 (d := Fg.d_ten_to) rfl
theorem Tx.q_leads_back (T : Tx w K mg) : ∃ fd, FunD K "leads_back" "leads_back" (defArgs s_leads_back) (defBody s_leads_back) (defScope s_leads_back) [] [] (He.ga K "leads_back") fd := T.says.d.def_ 31 (d := Fg.d_leads_back) rfl
theorem Tx.q_counts_near (T : Tx w K mg) : ∃ fd, FunD K "counts_near" "counts_near" (defArgs s_counts_near) (defBody s_counts_near) (defScope s_counts_near) [] [] (He.ga K "counts_near") fd := T.says.d.def_ 32 (d := Fg.d_counts_near) rfl
theorem Tx.q_shortest (T : Tx w K mg) : ∃ fd, FunD K "shortest" "shortest" (defArgs s_shortest) (defBody s_shortest) (defScope s_shortest) [] [] (He.ga K "shortest") fd := T.says.d.def_ 33 (d := Fg.d_shortest) rfl
theorem Tx.q_is_whole_shortchecks (T : Tx w K mg) : ∃ fd, FunD K "is_whole" "is_whole" (defArgs s_is_whole_shortchecks) (defBody s_is_whole_shortchecks) (defScope s_is_whole_shortchecks) [] [] (He.ga K "is_whole_shortchecks") fd := T.says.d.def_ 34 (d := Fg.d_is_whole_shortchecks) rfl
theorem Tx.q_are_next (T : Tx w K mg) : ∃ fd, FunD K "are_next" "are_next" (defArgs s_are_next) (defBody s_are_next) (defScope s_are_next) [] [] (He.ga K "are_next") fd := T.says.d.def_ 35 (d := Fg.d_are_next) rfl
theorem Tx.q_is_back (T : Tx w K mg) : ∃ fd, FunD K "is_back" "is_back" (defArgs s_is_back) (defBody s_is_back) (defScope s_is_back) [] [] (He.ga K "is_back") fd := T.says.d.def_ 36 (d := Fg.d_is_back) rfl
theorem Tx.q_shortest_holds (T : Tx w K mg) : ∃ fd, FunD K "shortest_holds" "shortest_holds" (defArgs s_shortest_holds) (defBody s_shortest_holds) (defScope s_shortest_holds) [] [] (He.ga K "shortest_holds") fd := T.says.d.def_ 37 (d := Fg.d_shortest_holds) rfl
theorem Tx.q_law_deck (T : Tx w K mg) : ∃ fd, FunD K "_law_deck" "_law_deck" (defArgs s_law_deck) (defBody s_law_deck) (defScope s_law_deck) [] [] (He.ga K "_law_deck") fd := T.says.d.def_ 38 (d := Fg.d_law_deck) rfl
theorem Tx.q_law_draw (T : Tx w K mg) : ∃ fd, FunD K "_law_draw" "_law_draw" (defArgs s_law_draw) (defBody s_law_draw) (defScope s_law_draw) [] [] (He.ga K "_law_draw") fd := T.says.d.def_ 39 (d := Fg.d_law_draw) rfl
theorem Tx.q_law_ten (T : Tx w K mg) : ∃ fd, FunD K "_law_ten" "_law_ten" (defArgs s_law_ten) (defBody s_law_ten) (defScope s_law_ten) [] [] (He.ga K "_law_ten") fd := T.says.d.def_ 40 (d := Fg.d_law_ten) rfl
theorem Tx.q_law_some_number (T : Tx w K mg) : ∃ fd, FunD K "_law_some_number" "_law_some_number" (defArgs s_law_some_number) (defBody s_law_some_number) (defScope s_law_some_number) [] [] (He.ga K "_law_some_number") fd := T.says.d.def_ 41 (d := Fg.d_law_some_number) rfl
theorem Tx.q_law_some_step (T : Tx w K mg) : ∃ fd, FunD K "_law_some_step" "_law_some_step" (defArgs s_law_some_step) (defBody s_law_some_step) (defScope s_law_some_step) [] [] (He.ga K "_law_some_step") fd := T.says.d.def_ 42 (d := Fg.d_law_some_step) rfl
theorem Tx.q_law_beyond (T : Tx w K mg) : ∃ fd, FunD K "_law_beyond" "_law_beyond" (defArgs s_law_beyond) (defBody s_law_beyond) (defScope s_law_beyond) [] [] (He.ga K "_law_beyond") fd := T.says.d.def_ 43 (d := Fg.d_law_beyond) rfl
theorem Tx.q_law_steps (T : Tx w K mg) : ∃ fd, FunD K "_law_steps" "_law_steps" (defArgs s_law_steps) (defBody s_law_steps) (defScope s_law_steps) [] [] (He.ga K "_law_steps") fd := T.says.d.def_ 44 (d := Fg.d_law_steps) rfl
theorem Tx.q_law_whole (T : Tx w K mg) : ∃ fd, FunD K "_law_whole" "_law_whole" (defArgs s_law_whole) (defBody s_law_whole) (defScope s_law_whole) [] [] (He.ga K "_law_whole") fd := T.says.d.def_ 45 (d := Fg.d_law_whole) rfl
theorem Tx.q_law_round_due (T : Tx w K mg) : ∃ fd, FunD K "_law_round_due" "_law_round_due" (defArgs s_law_round_due) (defBody s_law_round_due) (defScope s_law_round_due) [] [] (He.ga K "_law_round_due") fd := T.says.d.def_ 46 (d := Fg.d_law_round_due) rfl
theorem Tx.q_law_back (T : Tx w K mg) : ∃ fd, FunD K "_law_back" "_law_back" (defArgs s_law_back) (defBody s_law_back) (defScope s_law_back) [] [] (He.ga K "_law_back") fd := T.says.d.def_ 47 (d := Fg.d_law_back) rfl
theorem Tx.q_law_shortest_due (T : Tx w K mg) : ∃ fd, FunD K "_law_shortest_due" "_law_shortest_due" (defArgs s_law_shortest_due) (defBody s_law_shortest_due) (defScope s_law_shortest_due) [] [] (He.ga K "_law_shortest_due") fd := T.says.d.def_ 48 (d := Fg.d_law_shortest_due) rfl
theorem Tx.q_law_together (T : Tx w K mg) : ∃ fd, FunD K "_law_together" "_law_together" (defArgs s_law_together) (defBody s_law_together) (defScope s_law_together) [] [] (He.ga K "_law_together") fd := T.says.d.def_ 49 (d := Fg.d_law_together) rfl
theorem Tx.q_law_put_so (T : Tx w K mg) : ∃ fd, FunD K "_law_put_so" "_law_put_so" (defArgs s_law_put_so) (defBody s_law_put_so) (defScope s_law_put_so) [] [] (He.ga K "_law_put_so") fd := T.says.d.def_ 50 (d := Fg.d_law_put_so) rfl
theorem Tx.q_law_sum_due (T : Tx w K mg) : ∃ fd, FunD K "_law_sum_due" "_law_sum_due" (defArgs s_law_sum_due) (defBody s_law_sum_due) (defScope s_law_sum_due) [] [] (He.ga K "_law_sum_due") fd := T.says.d.def_ 51 (d := Fg.d_law_sum_due) rfl
theorem Tx.q_law_otherwise (T : Tx w K mg) : ∃ fd, FunD K "_law_otherwise" "_law_otherwise" (defArgs s_law_otherwise) (defBody s_law_otherwise) (defScope s_law_otherwise) [] [] (He.ga K "_law_otherwise") fd := T.says.d.def_ 52 (d := Fg.d_law_otherwise) rfl
theorem Tx.q_law_spoilt (T : Tx w K mg) : ∃ fd, FunD K "_law_spoilt" "_law_spoilt" (defArgs s_law_spoilt) (defBody s_law_spoilt) (defScope s_law_spoilt) [] [] (He.ga K "_law_spoilt") fd := T.says.d.def_ 53 (d := Fg.d_law_spoilt) rfl
theorem Tx.q_law_right (T : Tx w K mg) : ∃ fd, FunD K "_law_right" "_law_right" (defArgs s_law_right) (defBody s_law_right) (defScope s_law_right) [] [] (He.ga K "_law_right") fd := T.says.d.def_ 54 (d := Fg.d_law_right) rfl
theorem Tx.q_law_number (T : Tx w K mg) : ∃ fd, FunD K "_law_number" "_law_number" (defArgs s_law_number) (defBody s_law_number) (defScope s_law_number) [] [] (He.ga K "_law_number") fd := T.says.d.def_ 55 (d := Fg.d_law_number) rfl
theorem Tx.q_law (T : Tx w K mg) : ∃ fd, FunD K "law" "law" (defArgs s_law) (defBody s_law) (defScope s_law) [] [] (He.ga K "law") fd := T.says.d.def_ 56 (d := Fg.d_law) rfl
theorem Tx.q_N_init (T : Tx w K mg) : ∃ fd, FunD K "__init__" "Number.__init__" (defArgs s_N_init) (defBody s_N_init) (defScope s_N_init) [V.int 1] [] (He.ma K (CN K) "__init__") fd := T.says.d.def_ 57 (d := Fg.d_N_init) rfl
theorem Tx.q_N_eq (T : Tx w K mg) : ∃ fd, FunD K "__eq__" "Number.__eq__" (defArgs s_N_eq) (defBody s_N_eq) (defScope s_N_eq) [] [] (He.ma K (CN K) "__eq__") fd := T.says.d.def_ 58 (d := Fg.d_N_eq) rfl
theorem Tx.q_N_str (T : Tx w K mg) : ∃ fd, FunD K "__str__" "Number.__str__" (defArgs s_N_str) (defBody s_N_str) (defScope s_N_str) [] [] (He.ma K (CN K) "__str__") fd := T.says.d.def_ 59 (d := Fg.d_N_str) rfl
theorem Tx.q_N_repr (T : Tx w K mg) : ∃ fd, FunD K "__repr__" "Number.__repr__" (defArgs s_N_repr) (defBody s_N_repr) (defScope s_N_repr) [] [] (He.ma K (CN K) "__repr__") fd := T.says.d.def_ 60 (d := Fg.d_N_repr) rfl
theorem Tx.q_N_more (T : Tx w K mg) : ∃ fd, FunD K "more" "Number.more" (defArgs s_N_more) (defBody s_N_more) (defScope s_N_more) [] [] (He.ma K (CN K) "more") fd := T.says.d.def_ 61 (d := Fg.d_N_more) rfl
theorem Tx.q_N_less (T : Tx w K mg) : ∃ fd, FunD K "less" "Number.less" (defArgs s_N_less) (defBody s_N_less) (defScope s_N_less) [] [] (He.ma K (CN K) "less") fd := T.says.d.def_ 62 (d := Fg.d_N_less) rfl
theorem Tx.q_N_times (T : Tx w K mg) : ∃ fd, FunD K "times" "Number.times" (defArgs s_N_times) (defBody s_N_times) (defScope s_N_times) [] [] (He.ma K (CN K) "times") fd := T.says.d.def_ 63 (d := Fg.d_N_times) rfl
theorem Tx.q_N_over (T : Tx w K mg) : ∃ fd, FunD K "over" "Number.over" (defArgs s_N_over) (defBody s_N_over) (defScope s_N_over) [] [] (He.ma K (CN K) "over") fd := T.says.d.def_ 64 (d := Fg.d_N_over) rfl
theorem Tx.q_N_below (T : Tx w K mg) : ∃ fd, FunD K "below" "Number.below" (defArgs s_N_below) (defBody s_N_below) (defScope s_N_below) [] [] (He.ma K (CN K) "below") fd := T.says.d.def_ 65 (d := Fg.d_N_below) rfl
theorem Tx.q_N_size (T : Tx w K mg) : ∃ fd, FunD K "size" "Number.size" (defArgs s_N_size) (defBody s_N_size) (defScope s_N_size) [] [] (He.ma K (CN K) "size") fd := T.says.d.def_ 66 (d := Fg.d_N_size) rfl
theorem Tx.q_N_floor (T : Tx w K mg) : ∃ fd, FunD K "floor" "Number.floor" (defArgs s_N_floor) (defBody s_N_floor) (defScope s_N_floor) [] [] (He.ma K (CN K) "floor") fd := T.says.d.def_ 67 (d := Fg.d_N_floor) rfl
end
end Fg
/-! M1: the plain mathematics of rounding, over core Lean's Rat. -/
set_option linter.all false
namespace Fg
/-! ### a Rat by its top and bottom -/
theorem nd (q : Rat) : (q.num : Rat) / ((q.den : Int) : Rat) = q := by
  have h := Rat.num_divInt_den q
  rw [Rat.divInt_eq_div] at h
  exact h
theorem cpos {b : Int} (h : 0 < b) : (0 : Rat) < (b : Rat) := Rat.intCast_pos.mpr h
theorem cne {b : Int} (h : 0 < b) : (b : Rat) ≠ 0 := fun e => by
  have h1 := cpos h
  rw [e] at h1
  exact absurd h1 (by decide)
theorem dpos (q : Rat) : (0 : Int) < (q.den : Int) := by
  have := q.den_nz
  omega
theorem dn (q : Rat) : ((q.den : Int) : Rat) ≠ 0 := cne (dpos q)
theorem qadd (p q : Rat) : ((p.num * q.den + q.num * p.den : Int) : Rat) / ((p.den * q.den : Int) : Rat) = p + q := by
  have h1 := dn p
  have h2 := dn q
  have e1 := nd p
  have e2 := nd q
  rw [Rat.intCast_add, Rat.intCast_mul, Rat.intCast_mul, Rat.intCast_mul]
  grind
theorem qsub (p q : Rat) : ((p.num * q.den - q.num * p.den : Int) : Rat) / ((p.den * q.den : Int) : Rat) = p - q := by
  have h1 := dn p
  have h2 := dn q
  have e1 := nd p
  have e2 := nd q
  rw [Rat.intCast_sub, Rat.intCast_mul, Rat.intCast_mul, Rat.intCast_mul]
  grind
theorem qmul (p q : Rat) : ((p.num * q.num : Int) : Rat) / ((p.den * q.den : Int) : Rat) = p * q := by
  have h1 := dn p
  have h2 := dn q
  have e1 := nd p
  have e2 := nd q
  rw [Rat.intCast_mul, Rat.intCast_mul]
  grind
theorem qdiv (p q : Rat) (h : q ≠ 0) : ((p.num * q.den : Int) : Rat) / ((p.den * q.num : Int) : Rat) = p / q := by
  have h1 := dn p
  have h2 := dn q
  have e1 := nd p
  have e2 := nd q
  rw [Rat.intCast_mul, Rat.intCast_mul]
  grind
theorem num_pos {q : Rat} (h : 0 < q) : 0 < q.num := by
  have h1 := (Rat.lt_iff 0 q).mp h
  simpa using h1
/-- what Number's making reckons -/
theorem mk_num {t b : Int} (h : 0 < b) : ((t : Rat) / (b : Rat)).num = t / (Int.gcd t b : Int) := by
  rw [← Rat.divInt_eq_div, Rat.num_divInt, Int.sign_eq_one_of_pos h, Int.one_mul, Int.gcd_comm]
theorem mk_den {t b : Int} (h : 0 < b) : ((((t : Rat) / (b : Rat)).den : Nat) : Int) = b / (Int.gcd t b : Int) := by
  rw [← Rat.divInt_eq_div, Rat.den_divInt, if_neg (by omega), Int.natCast_ediv, Int.gcd_comm]
  congr 1
  omega
theorem gcd_pos {t b : Int} (h : 0 < b) : (0 : Int) < (Int.gcd t b : Int) := by
  have := Int.gcd_pos_of_ne_zero_right t (b := b) (by omega)
  omega
/-! ### bounds of tops and bottoms -/
def Bd (n : Nat) (i : Int) : Prop := i.natAbs < 2 ^ n
def Sz (n : Nat) (q : Rat) : Prop := Bd n q.num ∧ Bd n (q.den : Int)
theorem Bd.mono {m n : Nat} {i : Int} (h : Bd m i) (hm : m ≤ n) : Bd n i := Nat.lt_of_lt_of_le h (Nat.pow_le_pow_right (by decide) hm)
theorem Sz.mono {m n : Nat} {q : Rat} (h : Sz m q) (hm : m ≤ n) : Sz n q := ⟨h.1.mono hm, h.2.mono hm⟩
theorem Bd.mul {m n : Nat} {i j : Int} (h : Bd m i) (h2 : Bd n j) : Bd (m + n) (i * j) := by
  unfold Bd at *
  rw [Int.natAbs_mul, Nat.pow_add]
  exact Nat.mul_lt_mul'' h h2
theorem Bd.add {m : Nat} {i j : Int} (h : Bd m i) (h2 : Bd m j) : Bd (m + 1) (i + j) := by
  unfold Bd at *
  rw [Nat.pow_succ]
  omega
theorem Bd.sub {m : Nat} {i j : Int} (h : Bd m i) (h2 : Bd m j) : Bd (m + 1) (i - j) := by
  unfold Bd at *
  rw [Nat.pow_succ]
  omega
theorem Bd.div {m : Nat} {i j : Int} (h : Bd m i) (hj : 0 < j) (hd : j ∣ i) : Bd m (i / j) := by
  unfold Bd at *
  obtain ⟨k, rfl⟩ := hd
  rw [Int.mul_ediv_cancel_left k (by omega)]
  refine Nat.lt_of_le_of_lt ?_ h
  rw [Int.natAbs_mul]
  exact Nat.le_mul_of_pos_left _ (by omega)
theorem Sz.mk {m : Nat} {t b : Int} (h : 0 < b) (ht : Bd m t) (hb : Bd m b) : Sz m ((t : Rat) / (b : Rat)) :=
  ⟨by rw [mk_num h]; exact ht.div (gcd_pos h) (Int.gcd_dvd_left ..), by rw [mk_den h]; exact hb.div (gcd_pos h) (Int.gcd_dvd_right ..)⟩
theorem Sz.add {m : Nat} {p q : Rat} (h : Sz m p) (h2 : Sz m q) : Sz (m + m + 1) (p + q) := by
  rw [← qadd]
  exact Sz.mk (Int.mul_pos (dpos p) (dpos q)) ((h.1.mul h2.2).add (h2.1.mul h.2)) ((h.2.mul h2.2).mono (by omega))
theorem Sz.sub {m : Nat} {p q : Rat} (h : Sz m p) (h2 : Sz m q) : Sz (m + m + 1) (p - q) := by
  rw [← qsub]
  exact Sz.mk (Int.mul_pos (dpos p) (dpos q)) ((h.1.mul h2.2).sub (h2.1.mul h.2)) ((h.2.mul h2.2).mono (by omega))
theorem Sz.mul {m : Nat} {p q : Rat} (h : Sz m p) (h2 : Sz m q) : Sz (m + m) (p * q) := by
  rw [← qmul]
  exact Sz.mk (Int.mul_pos (dpos p) (dpos q)) (h.1.mul h2.1) (h.2.mul h2.2)
theorem Sz.div {m : Nat} {p q : Rat} (h : Sz m p) (h2 : Sz m q) (hq : 0 < q) : Sz (m + m) (p / q) := by
  have hn := num_pos hq
  rw [← qdiv p q (fun e => by rw [e] at hq; exact absurd hq (by decide))]
  exact Sz.mk (Int.mul_pos (dpos p) hn) (h.1.mul h2.2) (h.2.mul h2.1)
theorem Sz.int {m : Nat} {i : Int} (h : Bd m i) (hm : 1 ≤ m) : Sz m (i : Rat) := ⟨h, by
  rw [Rat.den_intCast]
  exact (show Bd 1 1 by unfold Bd; decide).mono hm⟩
theorem Sz.floor {m : Nat} {q : Rat} (h : Sz m q) : Bd m q.floor := by
  rw [Rat.floor_def]
  have hd := dpos q
  have h1 := h.1
  unfold Bd at *
  refine Nat.lt_of_le_of_lt ?_ h1
  have a := Int.natAbs_ediv_le_natAbs q.num q.den
  exact a
/-! ### floors -/
theorem fl_le (x : Rat) : (x.floor : Rat) ≤ x := Rat.floor_le x
theorem fl_lt (x : Rat) : x < (x.floor : Rat) + 1 := by
  have h := Rat.lt_floor_add_one x
  rw [Rat.intCast_add] at h
  exact h
theorem fl_of {x : Rat} {k : Int} (h1 : (k : Rat) ≤ x) (h2 : x < (k : Rat) + 1) : x.floor = k := by
  have a : k ≤ x.floor := Rat.le_floor_iff.mpr h1
  have b : x.floor < k + 1 := Rat.floor_lt_iff.mpr (by rw [Rat.intCast_add]; exact h2)
  omega
theorem fl_int (k : Int) : (k : Rat).floor = k := Rat.floor_intCast k
/-- whether a rational is whole -/
def isI (x : Rat) : Bool := decide ((x.floor : Rat) = x)
theorem isI_int (k : Int) : isI (k : Rat) = true := by
  unfold isI
  rw [fl_int]
  exact decide_eq_true rfl
/-- what it is beyond its floor -/
def fr (x : Rat) : Rat := x - (x.floor : Rat)
theorem fr_nonneg (x : Rat) : 0 ≤ fr x := by
  have := fl_le x
  unfold fr
  grind
theorem fr_lt (x : Rat) : fr x < 1 := by
  have := fl_lt x
  unfold fr
  grind
theorem fr_zero (x : Rat) : fr x = 0 ↔ isI x = true := by
  unfold fr isI
  rw [decide_eq_true_iff]
  constructor <;> intro h <;> grind
theorem fr_pos {x : Rat} (h : isI x = false) : 0 < fr x := by
  have h1 := fr_nonneg x
  have h2 : ¬ fr x = 0 := fun e => by
    rw [(fr_zero x).mp e] at h
    cases h
  grind
/-! ### the ways -/
inductive Way where
  | up | down | high | low | hup | hdown | heven | hodd
  deriving DecidableEq
def Way.half : Way → Bool
  | .hup | .hdown | .heven | .hodd => true
  | _ => false
/-- by_half -/
def byH (p : Rat) (b : Bool) : Bool := if 2 * p = 1 then b else decide (1 < 2 * p)
/-- whether the greater neighbour is taken, of a number that is no multiple -/
def goes (w : Way) (c : Int) (p : Rat) : Bool := match w with
  | .up => decide (0 ≤ c)
  | .down => decide (c < 0)
  | .high => true
  | .low => false
  | .hup => byH p (decide (0 ≤ c))
  | .hdown => byH p (decide (c < 0))
  | .heven => byH p (decide (c % 2 = 1))
  | .hodd => byH p (decide (c % 2 = 0))
def cnt (w : Way) (x : Rat) : Int := if isI x = true then x.floor else if goes w x.floor (fr x) = true then x.floor + 1 else x.floor
def hiN (x : Rat) : Int := if isI x = true then x.floor else x.floor + 1
theorem cnt_int (w : Way) (k : Int) : cnt w (k : Rat) = k := by
  unfold cnt
  rw [if_pos (isI_int k), fl_int]
theorem cnt_ge (w : Way) (x : Rat) : x.floor ≤ cnt w x := by
  unfold cnt
  split
  · omega
  · split <;> omega
theorem cnt_le (w : Way) (x : Rat) : cnt w x ≤ x.floor + 1 := by
  unfold cnt
  split
  · omega
  · split <;> omega
theorem cnt_le_of (w : Way) {x : Rat} {k : Int} (h : x ≤ (k : Rat)) : cnt w x ≤ k := by
  unfold cnt
  split
  · rename_i h1
    unfold isI at h1
    have h2 := of_decide_eq_true h1
    rw [← h2] at h
    exact Rat.intCast_le_intCast.mp h
  · rename_i h1
    have h3 : x.floor < k := Rat.floor_lt_iff.mpr (by
      refine Rat.lt_of_le_of_ne h fun e => h1 ?_
      rw [e]
      exact isI_int k)
    split <;> omega
/-- near enough to a whole number -/
theorem cnt_near {x : Rat} {k : Int} (h1 : (k : Rat) - 1 / 2 < x) (h2 : x < (k : Rat) + 1 / 2) : cnt .heven x = k := by
  by_cases hk : (k : Rat) ≤ x
  · have hf : x.floor = k := fl_of hk (by grind)
    unfold cnt
    split
    · exact hf
    · have hp : goes .heven x.floor (fr x) = false := by
        unfold goes byH fr
        rw [hf]
        simp only
        rw [if_neg (by grind)]
        exact decide_eq_false (by grind)
      rw [hp, if_neg (by decide)]
      exact hf
  · have hf : x.floor = k - 1 := fl_of (by rw [Rat.intCast_sub]; grind) (by rw [Rat.intCast_sub]; grind)
    have hn : isI x = false := by
      unfold isI
      refine decide_eq_false fun e => ?_
      rw [hf, Rat.intCast_sub] at e
      grind
    have hp : goes .heven x.floor (fr x) = true := by
      unfold goes byH fr
      rw [hf]
      simp only
      rw [Rat.intCast_sub, if_neg (by grind)]
      exact decide_eq_true (by grind)
    unfold cnt
    rw [hn, if_neg (by decide), if_pos hp, hf]
    omega
/-! ### the law's own reckoning, in whole numbers -/
theorem fl_div {a b : Int} (hb : 0 < b) : ((a : Rat) / (b : Rat)).floor = a / b := by
  have hp := cpos hb
  have hm := Int.emod_add_mul_ediv a b
  have h0 := Int.emod_nonneg a (show b ≠ 0 by omega)
  have h1 := Int.emod_lt_of_pos a hb
  refine fl_of ?_ ?_
  · refine Rat.not_lt.mp fun q => ?_
    have q1 := (Rat.div_lt_iff hp).mp q
    rw [← Rat.intCast_mul] at q1
    have q2 := Rat.intCast_lt_intCast.mp q1
    have e : a / b * b = b * (a / b) := Int.mul_comm _ _
    omega
  · refine (Rat.div_lt_iff hp).mpr ?_
    have e : ((a / b : Int) : Rat) + 1 = ((a / b + 1 : Int) : Rat) := by rw [Rat.intCast_add]; rfl
    rw [e, ← Rat.intCast_mul]
    refine Rat.intCast_lt_intCast.mpr ?_
    rw [Int.add_mul]
    have e : a / b * b = b * (a / b) := Int.mul_comm _ _
    omega
theorem fr_div {a b : Int} (hb : 0 < b) : fr ((a : Rat) / (b : Rat)) = ((a % b : Int) : Rat) / (b : Rat) := by
  have hp := cne hb
  have hm := Int.emod_add_mul_ediv a b
  unfold fr
  rw [fl_div hb]
  have e : (a : Rat) = ((a % b : Int) : Rat) + (b : Rat) * ((a / b : Int) : Rat) := by
    rw [← Rat.intCast_mul, ← Rat.intCast_add, hm]
  grind
theorem fr_div_zero {a b : Int} (hb : 0 < b) : (a % b = 0) ↔ isI ((a : Rat) / (b : Rat)) = true := by
  rw [← fr_zero, fr_div hb]
  have hp := cne hb
  constructor
  · intro h
    rw [h]
    have : ((0 : Int) : Rat) = 0 := rfl
    grind
  · intro h
    have h2 : ((a % b : Int) : Rat) = 0 := by grind
    exact Rat.intCast_inj.mp (h2.trans rfl)
/-- the ratio that the law speaks of -/
def rat (t b s0 s1 : Int) : Rat := ((t : Rat) / (b : Rat)) / ((s0 : Rat) / (s1 : Rat))
theorem rat_eq {t b s0 s1 : Int} (hb : 0 < b) (h0 : 0 < s0) (h1 : 0 < s1) : rat t b s0 s1 = ((t * s1 : Int) : Rat) / ((b * s0 : Int) : Rat) := by
  have a := cne hb
  have b := cne h0
  have c := cne h1
  unfold rat
  rw [Rat.intCast_mul, Rat.intCast_mul]
  grind
/-- the law's _law_steps behind the rest's test: lesser, rest, whole, whether the top is above nought -/
def stepsI (w : Way) (lesser rest whole : Int) (pos : Bool) : Int :=
  if rest = 0 then lesser else
  if w.half = true ∧ 2 * rest ≠ whole then lesser + (if 2 * rest > whole then 1 else 0) else
  lesser + match w with
    | .up | .hup => (if pos = true then 1 else 0)
    | .down | .hdown => 1 - (if pos = true then 1 else 0)
    | .high => 1
    | .low => 0
    | .heven => lesser % 2
    | .hodd => 1 - lesser % 2
theorem half_iff {r m : Int} (hm : 0 < m) : (2 * r = m) ↔ 2 * ((r : Rat) / (m : Rat)) = 1 := by
  have hp := cne hm
  have e2 : ((2 * r : Int) : Rat) = 2 * (r : Rat) := by rw [Rat.intCast_mul]; rfl
  constructor
  · intro h
    have h1 : 2 * (r : Rat) = (m : Rat) := by rw [← e2, h]
    grind
  · intro h
    have h1 : 2 * (r : Rat) = (m : Rat) := by grind
    rw [← e2] at h1
    exact Rat.intCast_inj.mp h1
theorem half_lt {r m : Int} (hm : 0 < m) : (m < 2 * r) ↔ 1 < 2 * ((r : Rat) / (m : Rat)) := by
  have hp := cpos hm
  have e2 : ((2 * r : Int) : Rat) = 2 * (r : Rat) := by rw [Rat.intCast_mul]; rfl
  have e3 : 2 * ((r : Rat) / (m : Rat)) = ((2 * r : Int) : Rat) / (m : Rat) := by
    rw [e2]
    have hq := cne hm
    grind
  rw [e3, Rat.lt_div_iff hp, Rat.one_mul]
  exact Rat.intCast_lt_intCast.symm
theorem steps_cnt (w : Way) {n m : Int} (hm : 0 < m) {pos : Bool} (hpos : pos = decide (0 < n)) : stepsI w (n / m) (n % m) m pos = cnt w ((n : Rat) / (m : Rat)) := by
  have hz := fr_div_zero (a := n) hm
  have hf := fl_div (a := n) hm
  have hr := fr_div (a := n) hm
  unfold stepsI cnt
  by_cases h0 : n % m = 0
  · rw [if_pos h0, if_pos (hz.mp h0), hf]
  · have hn : ¬ isI ((n : Rat) / (m : Rat)) = true := fun e => h0 (hz.mpr e)
    rw [if_neg h0, if_neg hn, hf, hr]
    have s1 : decide (0 < n) = decide (0 ≤ n / m) := by
      have a1 := Int.emod_add_mul_ediv n m
      have a2 := Int.emod_nonneg n (show m ≠ 0 by omega)
      have a3 := Int.emod_lt_of_pos n hm
      by_cases hn : 0 ≤ n / m
      · rw [decide_eq_true hn]
        have : 0 ≤ m * (n / m) := Int.mul_nonneg (by omega) hn
        exact decide_eq_true (by omega)
      · rw [decide_eq_false hn]
        have : m * (n / m) ≤ m * (-1) := Int.mul_le_mul_of_nonneg_left (by omega) (by omega)
        exact decide_eq_false (by omega)
    rw [s1] at hpos
    have e1 := half_iff (r := n % m) hm
    have e2 := half_lt (r := n % m) hm
    have p2 : n / m % 2 = 0 ∨ n / m % 2 = 1 := by omega
    subst hpos
    have gb : ∀ b, byH (((n % m : Int) : Rat) / (m : Rat)) b = if 2 * (n % m) = m then b else decide (m < 2 * (n % m)) := fun b => by
      unfold byH
      by_cases q : 2 * (n % m) = m
      · rw [if_pos q, if_pos (e1.mp q)]
      · rw [if_neg q, if_neg fun z => q (e1.mpr z)]
        by_cases q2 : m < 2 * (n % m)
        · rw [decide_eq_true q2, decide_eq_true (e2.mp q2)]
        · rw [decide_eq_false q2, decide_eq_false fun z => q2 (e2.mpr z)]
    have gw : goes w (n / m) (((n % m : Int) : Rat) / (m : Rat)) = match w with
      | .up => decide (0 ≤ n / m)
      | .down => decide (n / m < 0)
      | .high => true
      | .low => false
      | .hup => if 2 * (n % m) = m then decide (0 ≤ n / m) else decide (m < 2 * (n % m))
      | .hdown => if 2 * (n % m) = m then decide (n / m < 0) else decide (m < 2 * (n % m))
      | .heven => if 2 * (n % m) = m then decide (n / m % 2 = 1) else decide (m < 2 * (n % m))
      | .hodd => if 2 * (n % m) = m then decide (n / m % 2 = 0) else decide (m < 2 * (n % m)) := by
      cases w <;> first | rfl | exact gb _
    rw [gw]
    clear gw gb e1 e2 hr hf hz hn s1
    generalize n / m = c at *
    generalize n % m = r at *
    by_cases c1 : 0 ≤ c
    · have c2 : ¬ c < 0 := by omega
      cases w <;> simp only [Way.half, c1, c2, decide_true, decide_false] <;> (by_cases q : 2 * r = m) <;> (by_cases q2 : m < 2 * r) <;> (rcases p2 with p2 | p2) <;> simp [q, q2, p2] <;> omega
    · have c2 : c < 0 := by omega
      cases w <;> simp only [Way.half, c1, c2, decide_true, decide_false] <;> (by_cases q : 2 * r = m) <;> (by_cases q2 : m < 2 * r) <;> (rcases p2 with p2 | p2) <;> simp [q, q2, p2] <;> omega
end Fg
/-! M2: the plain mathematics of parts that come to their sum, and of the shortest figures. -/
set_option linter.all false
namespace Fg
def sumQ : List Rat → Rat
  | [] => 0
  | q :: r => q + sumQ r
theorem sumQ_append (a b : List Rat) : sumQ (a ++ b) = sumQ a + sumQ b := by
  induction a with
  | nil => simp only [List.nil_append, sumQ]; grind
  | cons q r ih => simp only [List.cons_append, sumQ, ih]; grind
theorem sumQ_take {qs : List Rat} {i : Nat} {q : Rat} (h : qs[i]? = some q) : sumQ (qs.take (i + 1)) = sumQ (qs.take i) + q := by
  rw [List.take_add_one, h, sumQ_append]
  simp only [Option.toList, sumQ]
  grind
theorem sumQ_div (qs : List Rat) {s : Rat} (h : s ≠ 0) : sumQ (qs.map (· / s)) = sumQ qs / s := by
  induction qs with
  | nil => simp only [List.map_nil, sumQ]; grind
  | cons q r ih => simp only [List.map_cons, sumQ, ih]; grind
/-! ### parts -/
def floors (xs : List Rat) : List Int := xs.map (·.floor)
/-- how many are no whole numbers -/
def broken (xs : List Rat) : Nat := (xs.filter fun x => !isI x).length
theorem floors_le (xs : List Rat) : ((floors xs).sum : Rat) ≤ sumQ xs := by
  induction xs with
  | nil => simp only [floors, List.map_nil, List.sum_nil, sumQ]; grind
  | cons x r ih =>
    have h := fl_le x
    simp only [floors, List.map_cons, List.sum_cons, sumQ] at *
    rw [Rat.intCast_add]
    grind
theorem le_floors (xs : List Rat) : sumQ xs ≤ (((floors xs).sum + (broken xs : Int) : Int) : Rat) := by
  induction xs with
  | nil => simp only [floors, broken, List.map_nil, List.sum_nil, List.filter_nil, List.length_nil, sumQ]; decide
  | cons x r ih =>
    have h := fl_lt x
    cases c : isI x with
    | true =>
      have h2 : (x.floor : Rat) = x := by
        unfold isI at c
        exact of_decide_eq_true c
      have e : broken (x :: r) = broken r := by
        unfold broken
        rw [List.filter_cons_of_neg (by rw [c]; decide)]
      rw [e]
      simp only [floors, List.map_cons, List.sum_cons, sumQ] at *
      rw [Int.add_assoc, Rat.intCast_add]
      grind
    | false =>
      have e : broken (x :: r) = broken r + 1 := by
        unfold broken
        rw [List.filter_cons_of_pos (by rw [c]; decide)]
        rfl
      rw [e]
      simp only [floors, List.map_cons, List.sum_cons, sumQ] at *
      have e2 : (x.floor + (List.map (fun x => x.floor) r).sum + ((broken r + 1 : Nat) : Int)) = (x.floor + 1) + ((List.map (fun x => x.floor) r).sum + (broken r : Int)) := by omega
      rw [e2, Rat.intCast_add, Rat.intCast_add]
      have e3 : ((1 : Int) : Rat) = 1 := rfl
      grind
def lacking (xs : List Rat) : Int := cnt .heven (sumQ xs) - (floors xs).sum
theorem lacking_nonneg (xs : List Rat) : 0 ≤ lacking xs := by
  have h := floors_le xs
  have h2 : (floors xs).sum ≤ (sumQ xs).floor := Rat.le_floor_iff.mpr h
  have h3 := cnt_ge .heven (sumQ xs)
  unfold lacking
  omega
theorem lacking_le (xs : List Rat) : lacking xs ≤ (broken xs : Int) := by
  have h := cnt_le_of .heven (le_floors xs)
  unfold lacking
  omega
theorem broken_le (xs : List Rat) : broken xs ≤ xs.length := List.length_filter_le _ _
/-- the i-th ratio -/
def xat (xs : List Rat) (i : Nat) : Rat := xs.getD i 0
theorem xat_eq {xs : List Rat} {i : Nat} {x : Rat} (h : xs[i]? = some x) : xat xs i = x := by
  unfold xat
  rw [List.getD_eq_getElem?_getD, h]
  rfl
/-- the broken ones by place -/
theorem broken_range (xs : List Rat) : broken xs = ((List.range xs.length).filter fun i => !isI (xat xs i)).length := by
  have h : xs = (List.range xs.length).map (xat xs) := by
    apply List.ext_getElem?
    intro i
    rw [List.getElem?_map]
    by_cases hi : i < xs.length
    · rw [List.getElem?_range hi, List.getElem?_eq_getElem hi]
      show some xs[i] = some (xat xs i)
      rw [xat_eq (List.getElem?_eq_getElem hi)]
    · rw [List.getElem?_eq_none (by omega), List.getElem?_eq_none (by simp; omega)]
      rfl
  unfold broken
  conv => lhs; rw [h]
  rw [List.filter_map, List.length_map]
  rfl
/-- while fewer than the broken ones are raised, one is left -/
theorem left_one {xs : List Rat} {js is : List Nat} (hp : (js ++ is).Perm (List.range xs.length)) (hl : js.length < broken xs) : ∃ i ∈ is, isI (xat xs i) = false := by
  rw [broken_range, ← (hp.filter _).length_eq, List.filter_append, List.length_append] at hl
  have h1 : (js.filter fun i => !isI (xat xs i)).length ≤ js.length := List.length_filter_le _ _
  have h2 : 0 < (is.filter fun i => !isI (xat xs i)).length := by omega
  obtain ⟨i, hi⟩ := List.exists_mem_of_length_pos h2
  obtain ⟨a, b⟩ := List.mem_filter.mp hi
  refine ⟨i, a, ?_⟩
  cases c : isI (xat xs i)
  · rfl
  · rw [c] at b
    cases b
/-- whether a part stands as the paper tells -/
def putOk (x : Rat) (c : Int) (t : Rat) : Bool :=
  if c = x.floor then decide (fr x = 0) || !decide (t < fr x) else decide (c = x.floor + 1) && (!decide (fr x = 0) && !decide (fr x < t))
/-- such counts and paper -/
structure Good (xs : List Rat) (cs : List Int) (t : Rat) : Prop where
  len : cs.length = xs.length
  t0 : 0 ≤ t
  t1 : t ≤ 1
  sum : cs.sum = cnt .heven (sumQ xs)
  put : ∀ (i : Nat) (x : Rat) (c : Int), xs[i]? = some x → cs[i]? = some c → putOk x c t = true
/-- what the loop keeps -/
structure RInv (xs : List Rat) (js is : List Nat) (t : Rat) : Prop where
  perm : (js ++ is).Perm (List.range xs.length)
  t0 : 0 ≤ t
  t1 : t ≤ 1
  hi : ∀ j ∈ js, t ≤ fr (xat xs j) ∧ isI (xat xs j) = false
  lo : ∀ i ∈ is, fr (xat xs i) ≤ t
theorem RInv.start (xs : List Rat) : RInv xs [] (List.range xs.length) 1 :=
  ⟨by simp, by decide, by decide, fun j h => by simp at h, fun i _ => Rat.le_of_lt (fr_lt _)⟩
theorem RInv.step {xs : List Rat} {js is : List Nat} {t : Rat} {b : Nat} (h : RInv xs js is t) (hb : b ∈ is) (hm : ∀ i ∈ is, fr (xat xs i) ≤ fr (xat xs b)) (hl : js.length < broken xs) :
    RInv xs (js ++ [b]) (is.erase b) (fr (xat xs b)) := by
  obtain ⟨i, hi, hn⟩ := left_one h.perm hl
  have hp : 0 < fr (xat xs i) := fr_pos hn
  have hb0 : isI (xat xs b) = false := by
    cases c : isI (xat xs b)
    · rfl
    · have := (fr_zero _).mpr c
      have := hm i hi
      grind
  refine ⟨?_, fr_nonneg _, Rat.le_of_lt (fr_lt _), fun j hj => ?_, fun i hi => hm i (List.mem_of_mem_erase hi)⟩
  · rw [List.append_assoc]
    exact ((List.perm_cons_erase hb).symm.append_left js).trans h.perm
  · rcases List.mem_append.mp hj with q | q
    · have a := h.hi j q
      have c := h.lo b hb
      exact ⟨by grind, a.2⟩
    · have e : j = b := by simpa using q
      subst e
      exact ⟨Rat.le_refl, hb0⟩
def raise (xs : List Rat) (js : List Nat) : List Int := (List.range xs.length).map fun i => (xat xs i).floor + (if i ∈ js then 1 else 0)
theorem sum_map_add {α : Type} (l : List α) (f g : α → Int) : (l.map fun i => f i + g i).sum = (l.map f).sum + (l.map g).sum := by
  induction l with
  | nil => rfl
  | cons a r ih => simp only [List.map_cons, List.sum_cons, ih]; omega
theorem sum_ind (l js : List Nat) (hj : js.Nodup) (hl : l.Nodup) (hs : ∀ j ∈ js, j ∈ l) : (l.map fun i => if i ∈ js then (1 : Int) else 0).sum = (js.length : Int) := by
  have h : (l.map fun i => if i ∈ js then (1 : Int) else 0).sum = ((l.filter fun i => decide (i ∈ js)).length : Int) := by
    clear hl hs
    induction l with
    | nil => rfl
    | cons a r ih =>
      simp only [List.map_cons, List.sum_cons]
      by_cases c : a ∈ js
      · rw [if_pos c, List.filter_cons_of_pos (by simpa using c), ih, List.length_cons]; omega
      · rw [if_neg c, List.filter_cons_of_neg (by simpa using c), ih]; omega
  rw [h]
  have p : (l.filter fun i => decide (i ∈ js)).Perm js := by
    refine (List.perm_ext_iff_of_nodup (hl.filter _) hj).mpr fun a => ?_
    rw [List.mem_filter]
    constructor
    · intro q; simpa using q.2
    · intro q; exact ⟨hs a q, by simpa using q⟩
  rw [p.length_eq]
theorem floors_range (xs : List Rat) : (List.range xs.length).map (fun i => (xat xs i).floor) = floors xs := by
  apply List.ext_getElem?
  intro i
  unfold floors
  rw [List.getElem?_map, List.getElem?_map]
  by_cases hi : i < xs.length
  · rw [List.getElem?_range hi, List.getElem?_eq_getElem hi]
    show some (xat xs i).floor = some xs[i].floor
    rw [xat_eq (List.getElem?_eq_getElem hi)]
  · rw [List.getElem?_eq_none (show xs.length ≤ i by omega), List.getElem?_eq_none (by simp; omega)]
    rfl
theorem RInv.good {xs : List Rat} {js is : List Nat} {t : Rat} (h : RInv xs js is t) (hl : (js.length : Int) = lacking xs) : Good xs (raise xs js) t := by
  have nd : (js ++ is).Nodup := h.perm.nodup_iff.mpr List.nodup_range
  have ndj : js.Nodup := (List.nodup_append.mp nd).1
  refine ⟨by unfold raise; simp, h.t0, h.t1, ?_, fun i x c hx hc => ?_⟩
  · unfold raise
    rw [sum_map_add, floors_range, sum_ind _ js ndj List.nodup_range (fun j hj => h.perm.mem_iff.mp (List.mem_append_left _ hj)), hl]
    unfold lacking
    omega
  · have hi := (List.getElem?_eq_some_iff.mp hx).1
    unfold raise at hc
    rw [List.getElem?_map, List.getElem?_range hi] at hc
    have e : (xat xs i).floor + (if i ∈ js then 1 else 0) = c := Option.some.inj hc
    have ex := xat_eq hx
    rw [ex] at e
    unfold putOk
    by_cases q : i ∈ js
    · rw [if_pos q] at e
      have a := h.hi i q
      rw [ex] at a
      have nz : ¬ fr x = 0 := fun z => by
        rw [(fr_zero x).mp z] at a
        cases a.2
      rw [if_neg (by omega), decide_eq_true (show c = x.floor + 1 by omega), decide_eq_false nz, decide_eq_false (show ¬ fr x < t by grind)]
      rfl
    · rw [if_neg q] at e
      have hm : i ∈ js ++ is := h.perm.mem_iff.mpr (List.mem_range.mpr hi)
      have hi2 : i ∈ is := (List.mem_append.mp hm).resolve_left q
      have a := h.lo i hi2
      rw [ex] at a
      rw [if_pos (by omega), decide_eq_false (show ¬ t < fr x by grind)]
      simp
/-! ### the shortest figures -/
def ten (e : Int) : Rat := if e < 0 then 1 / (((10 : Int) ^ (-e).toNat : Int) : Rat) else (((10 : Int) ^ e.toNat : Int) : Rat)
theorem ipow_pos (n : Nat) : (0 : Int) < 10 ^ n := Int.pow_pos (by decide)
theorem rpow_pos (n : Nat) : (0 : Rat) < (((10 : Int) ^ n : Int) : Rat) := cpos (ipow_pos n)
/-- how many steps c of so many places are -/
def ratio (c : Int) (p : Nat) (s : Rat) : Rat := ((c : Rat) / (((10 : Int) ^ p : Int) : Rat)) / s
/-- whether c of so many places leads back to k steps -/
def back (c : Int) (p : Nat) (k : Int) (s : Rat) : Bool := decide (cnt .heven (ratio c p s) = k)
/-- the kept number at so many places -/
def moved (k : Int) (s : Rat) (p : Nat) : Rat := ((k : Rat) * s) * (((10 : Int) ^ p : Int) : Rat)
/-- both neighbours lead back where the places are fine enough -/
theorem back_near {k : Int} {s : Rat} {p : Nat} {c : Int} (hs : 0 < s) (hu : 10 ≤ s * (((10 : Int) ^ p : Int) : Rat)) (h1 : moved k s p - 1 ≤ (c : Rat)) (h2 : (c : Rat) ≤ moved k s p + 1) : back c p k s = true := by
  have hp := rpow_pos p
  unfold back
  refine decide_eq_true (cnt_near ?_ ?_)
  · unfold ratio moved at *
    generalize (((10 : Int) ^ p : Int) : Rat) = u at *
    rw [Rat.lt_div_iff hs, Rat.lt_div_iff hp]
    have e : ((k : Rat) - 1 / 2) * s * u = (k : Rat) * s * u - 1 / 2 * (s * u) := by grind
    rw [e]
    grind
  · unfold ratio moved at *
    generalize (((10 : Int) ^ p : Int) : Rat) = u at *
    rw [Rat.div_lt_iff hs, Rat.div_lt_iff hp]
    have e : ((k : Rat) + 1 / 2) * s * u = (k : Rat) * s * u + 1 / 2 * (s * u) := by grind
    rw [e]
    grind
/-- a number that is whole at so many places leads back -/
theorem back_exact {k : Int} {s : Rat} {p : Nat} {c : Int} (hs : 0 < s) (h : moved k s p = (c : Rat)) : back c p k s = true := by
  have hp := rpow_pos p
  have e : ratio c p s = (k : Rat) := by
    unfold ratio
    rw [← h]
    unfold moved
    have h1 : s ≠ 0 := fun e => by rw [e] at hs; exact absurd hs (by decide)
    have h2 : (((10 : Int) ^ p : Int) : Rat) ≠ 0 := fun e => by rw [e] at hp; exact absurd hp (by decide)
    grind
  unfold back
  rw [e, cnt_int]
  exact decide_eq_true rfl
/-- the candidates at so many places -/
def near (k : Int) (s : Rat) (p : Nat) : List Int :=
  (if isI (moved k s p) = true then [(moved k s p).floor] else [(moved k s p).floor, (moved k s p).floor + 1]).filter fun c => back c p k s
theorem near_fine {k : Int} {s : Rat} {p : Nat} (hs : 0 < s) (hu : 10 ≤ s * (((10 : Int) ^ p : Int) : Rat)) : near k s p ≠ [] := by
  have h := fl_le (moved k s p)
  have h2 := fl_lt (moved k s p)
  have hb : back (moved k s p).floor p k s = true := back_near hs hu (by grind) (by grind)
  unfold near
  intro e
  have q := List.filter_eq_nil_iff.mp e (moved k s p).floor (by split <;> simp)
  exact q hb
theorem near_none {k : Int} {s : Rat} {p : Nat} (hs : 0 < s) (h : near k s p = []) : isI (moved k s p) = false ∧ back (moved k s p).floor p k s = false ∧ back ((moved k s p).floor + 1) p k s = false := by
  unfold near at h
  cases c : isI (moved k s p) with
  | true =>
    have hx : moved k s p = ((moved k s p).floor : Rat) := by
      unfold isI at c
      exact (of_decide_eq_true c).symm
    rw [if_pos c] at h
    exact absurd (back_exact hs hx) (List.filter_eq_nil_iff.mp h (moved k s p).floor (by simp))
  | false =>
    rw [if_neg (by rw [c]; decide)] at h
    have h2 := List.filter_eq_nil_iff.mp h
    refine ⟨rfl, ?_, ?_⟩
    · have := h2 (moved k s p).floor (by simp)
      simpa using this
    · have := h2 ((moved k s p).floor + 1) (by simp)
      simpa using this
theorem near_back {k : Int} {s : Rat} {p : Nat} {c : Int} (h : c ∈ near k s p) : back c p k s = true := by
  unfold near at h
  exact (List.mem_filter.mp h).2
end Fg
set_option Elab.async false
set_option linter.all false
set_option maxRecDepth 100000
/-! M3: the eleven steps, powers of ten. -/
namespace Fg
/-- the steps that are drawn: top, bottom -/
def stepPairs : List (Int × Int) := [(1, 1), (1, 10), (1, 100), (5, 100), (1, 8), (25, 1), (1, 3), (2, 7), (7, 1000), (1000000, 1), (1, 1000000000000)]
def stepOf (p : Int × Int) : Rat := (p.1 : Rat) / (p.2 : Rat)
def steps11 : List Rat := [1, 1/10, 1/100, 1/20, 1/8, 25, 1/3, 2/7, 7/1000, 1000000, 1/1000000000000]
theorem steps_eq : stepPairs.map stepOf = steps11 := by decide +kernel
/-- the figures of an int -/
def figs (n : Int) : Nat := (PySem.Str.ofString (toString n)).length
def pw0 (s : Rat) : Int := (figs s.num : Int) - (figs (s.den : Int) : Int)
def pw (s : Rat) : Int := if s < ten (pw0 s) then pw0 s - 1 else pw0 s
/-- the most places -/
def mp (s : Rat) : Nat := (1 - pw s).toNat
instance (m : Nat) (i : Int) : Decidable (Bd m i) := inferInstanceAs (Decidable (_ < _))
instance (m : Nat) (q : Rat) : Decidable (Sz m q) := inferInstanceAs (Decidable (_ ∧ _))
theorem steps_ok : ∀ s ∈ steps11, 0 < s ∧ Sz 45 s ∧ -60 < pw0 s ∧ pw0 s < 60 ∧ mp s ≤ 14 ∧ 10 ≤ s * (((10 : Int) ^ mp s : Int) : Rat) := by decide +kernel
theorem ten_zero : ten 0 = 1 := by decide +kernel
theorem ten_neg (p : Nat) : ten (-(p : Int)) = 1 / (((10 : Int) ^ p : Int) : Rat) := by
  by_cases h : p = 0
  · subst h
    decide +kernel
  · unfold ten
    rw [if_pos (by omega)]
    have e : (-(-(p : Int))).toNat = p := by omega
    rw [e]
theorem ten_pos (p : Nat) : ten (p : Int) = (((10 : Int) ^ p : Int) : Rat) := by
  unfold ten
  rw [if_neg (by omega)]
  have e : ((p : Int)).toNat = p := by omega
  rw [e]
theorem bd_pow {p : Nat} (h : p ≤ 64) : Bd 220 ((10 : Int) ^ p) := by
  unfold Bd
  rw [Int.natAbs_pow]
  refine Nat.lt_of_le_of_lt (Nat.pow_le_pow_right (by decide) h) (by decide)
theorem sz_ten {e : Int} (h1 : -60 ≤ e) (h2 : e ≤ 60) : Sz 220 (ten e) := by
  unfold ten
  split
  · have h : Bd 220 ((10 : Int) ^ (-e).toNat) := bd_pow (by omega)
    have := Sz.mk (m := 220) (t := 1) (b := (10 : Int) ^ (-e).toNat) (Int.pow_pos (by decide)) (by unfold Bd; decide) h
    exact this
  · exact Sz.int (bd_pow (by omega)) (by decide)
theorem pow_mono {a b : Nat} (h : a ≤ b) : (((10 : Int) ^ a : Int) : Rat) ≤ (((10 : Int) ^ b : Int) : Rat) := by
  rw [Rat.intCast_le_intCast]
  obtain ⟨c, rfl⟩ := Nat.le.dest h
  rw [Int.pow_add]
  have h1 : (0 : Int) < 10 ^ a := ipow_pos a
  have h2 : (0 : Int) < 10 ^ c := ipow_pos c
  have := Int.mul_le_mul_of_nonneg_left (show (1 : Int) ≤ 10 ^ c by omega) (Int.le_of_lt h1)
  omega
theorem fine_at {s : Rat} (hs : s ∈ steps11) {p : Nat} (h : mp s ≤ p) : 10 ≤ s * (((10 : Int) ^ p : Int) : Rat) := by
  obtain ⟨h0, _, _, _, _, h1⟩ := steps_ok s hs
  have h2 := Rat.mul_le_mul_of_nonneg_left (pow_mono h) (Rat.le_of_lt h0)
  exact Rat.le_trans h1 h2
theorem short_more {s : Rat} (hs : s ∈ steps11) {k : Int} {p : Nat} (h : near k s p = []) : p + 1 ≤ mp s := by
  rcases Nat.lt_or_ge p (mp s) with c | c
  · exact c
  · exact absurd h (near_fine (steps_ok s hs).1 (fine_at hs c))
/-- what shortest finds -/
structure Short (k : Int) (s : Rat) (c : Int) (p : Nat) : Prop where
  mem : c ∈ near k s p
  most : p ≤ mp s
  less : 0 < p → near k s (p - 1) = []
theorem back_x {c : Int} {p : Nat} {s : Rat} : ((1 / (((10 : Int) ^ p : Int) : Rat)) * (c : Rat)) / s = ratio c p s := by
  unfold ratio
  have h := rpow_pos p
  generalize (((10 : Int) ^ p : Int) : Rat) = u at *
  have : (1 / u) * (c : Rat) = (c : Rat) / u := by
    have h2 : u ≠ 0 := fun e => by rw [e] at h; exact absurd h (by decide)
    grind
  rw [this]
end Fg
set_option Elab.async false
set_option linter.all false
set_option maxRecDepth 100000
set_option maxHeartbeats 4000000
/-! B1: the frame of the walks: a def's promise by its name, Numbers on the heap, texts of noughts. -/
namespace Fg
open PySem PySem.Spec PyProof.Rows L2
/-! ### a def by its name -/
/-- the module's def x keeps the promise sp at level k; dvs: its defaults -/
def DefOk (P : Program) (w : World) (K : PySem.W.Frag) (mg : Str → Option Value) (base : Heap) (x : Str) (k : Nat) (dvs : List V) (sp : Sp) : Prop :=
  ∃ (f : Addr) (fd : FuncData) (ps : List Str) (ds : List Value), mg x = some (.ref f) ∧ PySem.W.keepIn K (.ref f) = true ∧ Binds K fd ps ds ∧ Vals dvs ds ∧ FnOk P w K mg base CX0 k f fd ps sp
section
variable {P : Program} {w : World} {K : PySem.W.Frag} {mg : Str → Option Value} {base : Heap} {x x' qual : Str} {params : Arguments} {body : List Stmt} {scope : Scope} {f : Addr} {fd : FuncData} {N ps : List Str} {k : Nat} {sp : Sp} {kws : List (Str × V)}
theorem FunD.ok0 {dvs : List V} (F : FunD K x' qual params body scope dvs kws f fd) (S : FnScope N ps scope) (len : ∀ vs H Q E, sp vs H Q E → vs.length = ps.length)
    (hbody : ∀ (cdv : Value) (A : Around) (outer : List Env) (s : Shared) (H : Hp) (vs : List V) (Q : VK) (E : XK), Room k (A.deeper (envOfC qual scope s.heap.objs.size f cdv)) → sp vs H Q E →
      ∃ t, PSs (cxOf CX0 P w K mg base N qual scope f cdv A outer s H E).nox body t ∧ t { nx := fun _ H' => Q .non H', rt := Q } (L2.start N vs) H) : FnOk P w K mg base CX0 (k + 1) f fd ps sp :=
  FunD.ok F S len fun cdv A outer s H vs Q E hr h => by
    obtain ⟨t, a, b⟩ := hbody cdv A outer s H vs Q E hr h
    exact ⟨t, a.nox, b⟩
theorem DefOk.of (F : FunD K x' qual params body scope [] [] f fd) (g : mg x = some (.ref f))
    (b : ∀ (kV doc pm : Value) (an : Option Addr) (cdv ct : Value) (us : List Value), us.length = ps.length → bindArgs (PySem.W.fnOf x' qual params body scope .none kV doc pm an cdv ct) ⟨us, []⟩ = pure (ps.zip us))
    (h : FnOk P w K mg base CX0 k f fd ps sp) : DefOk P w K mg base x k [] sp := ⟨f, fd, ps, [], g, F.kp, F.bindsN b, .nil, h⟩
theorem DefOk.mono {dvs : List V} {j : Nat} (D : DefOk P w K mg base x j dvs sp) (h : j ≤ k) : DefOk P w K mg base x k dvs sp := by
  obtain ⟨f, fd, ps, ds, a, b, c, d, e⟩ := D
  exact ⟨f, fd, ps, ds, a, b, c, d, e.mono h⟩
end
section
variable {X : Cx} {k : Nat} {dvs : List V} {sp : Sp} {x : Str} {p pos : Pos} {e : Expr} {es : List Expr} {t : TA}
/-- f(e, ..) -/
theorem pe_d (D : DefOk X.prog X.w X.K X.mg X.base x k dvs sp) (hr : Room k X.A) (ha : PA X (e :: es) t) (hg : Gl X x := by rfl)
    (hdb : (x == ("__debug__" : Str)) = false := by decide) (he : starEach (e :: es) X.env = (false, eval e X.env) :: starEach es X.env := by rfl) (hpl : (backTo pos (starEach es X.env)).any (·.1) = false := by rfl) :
    PE X (.Call (.Name x p) (e :: es) [] pos) (tCall sp dvs E0 t) := by
  refine ⟨fun pins s σ H Q I h => ?_⟩
  obtain ⟨f, fd, ps, ds, a, b, c, d, F⟩ := D
  exact (pe_call F hr hg a b c d pass0 ha hdb he hpl).run pins s σ H Q I h
end
/-! ### Numbers -/
/-- a Number's attributes, in the order of their stores -/
def nf (q : Rat) : List (Str × V) := [("bottom", .int (q.den : Int)), ("top", .int q.num)]
theorem bt : ¬ (("bottom" : Str) = "top") := by decide +kernel
theorem tb : ¬ (("top" : Str) = "bottom") := by decide +kernel
theorem nf_put (b t : Int) : putF "top" (.int t) (putF "bottom" (.int b) []) = ([("bottom", .int b), ("top", .int t)] : List (Str × V)) := by
  show (if ("bottom" : Str) = "top" then [(("bottom" : Str), V.int t)] else (("bottom" : Str), V.int b) :: putF "top" (V.int t) []) = _
  rw [if_neg bt]
  all_goals rfl
theorem lk_ne {a m : Str} {v : V} {r : List (Str × V)} (h : ¬ m = a) : ((a, v) :: r).lookup m = r.lookup m := by
  rw [List.lookup_cons]
  have e : (m == a) = false := by
    cases q : (m == a) with
    | false => rfl
    | true => exact absurd (eq_of_beq q) h
  rw [e]
theorem lk_eq {a : Str} {v : V} {r : List (Str × V)} : ((a, v) :: r).lookup a = some v := by
  rw [List.lookup_cons]
  have e : (a == a) = true := beq_self_eq_true a
  rw [e]
theorem nf_bottom (q : Rat) : (nf q).lookup ("bottom" : Str) = some (.int (q.den : Int)) := lk_eq
theorem nf_top (q : Rat) : (nf q).lookup ("top" : Str) = some (.int q.num) := (lk_ne tb).trans lk_eq
theorem nf_no (q : Rat) {m : Str} (h1 : ¬ m = "bottom") (h2 : ¬ m = "top") : (nf q).lookup m = none := (lk_ne h1).trans ((lk_ne h2).trans rfl)
/-- at a stands the Number q -/
def NumA (C : Addr) (H : Hp) (a : Addr) (q : Rat) : Prop := ∃ dx, H a = some (.ins C dx (nf q))
/-- v is the Number q -/
def NumV (C : Addr) (H : Hp) (v : V) (q : Rat) : Prop := ∃ a, v = .ref a ∧ NumA C H a q
theorem NumA.same {C : Addr} {H H' : Hp} {a : Addr} {q : Rat} (h : NumA C H a q) (s : Same H H') : NumA C H' a q := by
  obtain ⟨dx, e⟩ := h
  exact ⟨dx, s _ _ e⟩
theorem NumV.same {C : Addr} {H H' : Hp} {v : V} {q : Rat} (h : NumV C H v q) (s : Same H H') : NumV C H' v q := by
  obtain ⟨a, e, n⟩ := h
  exact ⟨a, e, n.same s⟩
theorem NumV.inj {C : Addr} {H : Hp} {v : V} {p q : Rat} (h : NumV C H v p) (h2 : NumV C H v q) : p = q := by
  obtain ⟨a, rfl, dx, e⟩ := h
  obtain ⟨b, e2, dy, e3⟩ := h2
  cases e2
  rw [e] at e3
  injection e3 with e4
  injection e4 with _ _ e5
  have h1 : V.int (p.den : Int) = V.int (q.den : Int) := by
    have := congrArg (fun l : List (Str × V) => l.head?.map (·.2)) e5
    simpa [nf] using this
  have h2 : V.int p.num = V.int q.num := by
    have := congrArg (fun l : List (Str × V) => l.getLast?.map (·.2)) e5
    simpa [nf] using this
  injection h1 with h1
  injection h2 with h2
  exact Rat.ext h2 (by omega)
theorem Same.upd {H : Hp} {p : Addr} {o : HO} (h : H p = none) : Same H (L2.upd H p o) := fun a u e => by
  rw [upd_ne (ne_of_none e h)]
  exact e
theorem Same.updOf {H H1 : Hp} {p : Addr} {o : HO} (s : Same H H1) (h : H1 p = none) : Same H (L2.upd H1 p o) := s.trans (Same.upd h)
/-! ### texts of noughts -/
def rep (z : Str) (n : Int) : Str := if n < 1 then Str.empty else if n = 1 then z else ⟨(List.replicate n.toNat z.cps).foldl (· ++ ·) #[]⟩
section
variable {X : Cx}
theorem foldl_len (z : Array Nat) : ∀ (n : Nat) (acc : Array Nat), ((List.replicate n z).foldl (· ++ ·) acc).size = acc.size + n * z.size
  | 0, acc => by simp
  | n + 1, acc => by
    rw [List.replicate_succ, List.foldl_cons, foldl_len z n, Array.size_append, Nat.succ_mul]
    omega
/-- text * n -/
theorem op_mulS : OpR X (binaryOp .Mult) (fun x y H Q => ∃ z n, x = .str z ∧ y = .int n ∧ z.length = 1 ∧ -1000 ≤ n ∧ n ≤ 1000 ∧ Q (.str (rep z n)) H) := by
  intro pins s σ H x y v u Q I rx ry h
  obtain ⟨z, n, rfl, rfl, hz, h1, h2, q⟩ := h
  obtain ⟨t, rfl⟩ := rx
  obtain ⟨t', rfl⟩ := ry
  have hs : z.cps.size = 1 := hz
  refine PySem.P.mul_str ?_ (fun a b => ?_) (fun a b => ?_) ?_
  · rw [decide_eq_false (by omega), decide_eq_false (by omega)]
    rfl
  · rw [hz]
    have hn : (2 : Int) ≤ n := by
      have c : ¬ n = 1 := fun e => by
        subst e
        simp at b
      omega
    have e1 : ((2 ^ 63 - 1 : Int)) / 1000 ≤ (2 ^ 63 - 1) / n := by
      refine Int.le_ediv_of_mul_le (by omega) ?_
      refine Int.le_trans (Int.mul_le_mul_of_nonneg_left h2 (by decide)) (by decide)
    have e2 : ((2 ^ 63 - 1 : Int)) / 1000 = 9223372036854775 := by decide
    omega
  · rw [hz]
    unfold PySem.Builtin.Str.tooLong
    rw [sizeLine_eq]
    simp
    omega
  · by_cases c1 : n < 1
    · rw [if_pos c1]
      have e : rep z n = Str.empty := if_pos c1
      rw [e] at q
      exact ⟨by decide, ⟨.str _, H, I.tok _, ⟨_, rfl⟩, q⟩⟩
    · rw [if_neg c1]
      by_cases c2 : n = 1
      · have e : rep z n = z := by
          unfold rep
          rw [if_neg c1, if_pos c2]
        rw [e] at q
        subst c2
        rw [if_pos (by simp)]
        exact ⟨.str _, H, I, ⟨_, rfl⟩, q⟩
      · have e : rep z n = ⟨(List.replicate n.toNat z.cps).foldl (· ++ ·) #[]⟩ := by
          unfold rep
          rw [if_neg c1, if_neg c2]
        rw [e] at q
        have b : (n == 1 || z.length == 0) = false := by
          rw [hz]
          simp [c2]
        rw [b, if_neg (by decide)]
        refine ⟨?_, ⟨.str _, H, I.tok _, ⟨_, rfl⟩, q⟩⟩
        show ((List.replicate n.toNat z.cps).foldl (· ++ ·) #[]).size ≤ sizeLine
        rw [foldl_len, hs, sizeLine_eq]
        show 0 + n.toNat * 1 ≤ _
        omega
end
/-- ten to a power, as the program makes it -/
def tenS (n : Int) : Str := (Str.ofString "1") ++ rep (Str.ofString "0") n
theorem tenS_all : ∀ n : Fin 64, PySem.intText? (tenS (n.val : Int)) = some ((10 : Int) ^ n.val) ∧ (tenS (n.val : Int)).length ≤ 640 ∧ (rep (Str.ofString "0") (n.val : Int)).length ≤ 600 := by decide +kernel
theorem tenS_ok {n : Nat} (h : n < 64) : PySem.intText? (tenS (n : Int)) = some ((10 : Int) ^ n) ∧ (tenS (n : Int)).length ≤ 640 ∧ (rep (Str.ofString "0") (n : Int)).length ≤ 600 := tenS_all ⟨n, h⟩
end Fg
set_option Elab.async false
set_option linter.all false
set_option maxRecDepth 100000
set_option maxHeartbeats 4000000
/-! D1: divisor_of, ten, the class Number. -/
namespace Fg
open PySem PySem.Spec PyProof.Rows L2
section
variable {P : Program} {w : World} {K : PySem.W.Frag} {mg : Str → Option Value} {base : Heap}
/-! ### divisor_of -/
def sp_divisor_of : Sp := fun vs H Q _ => ∃ a b : Int, vs = [.int a, .int b] ∧ 0 ≤ a ∧ 0 ≤ b ∧ Q (.int (Int.gcd a b : Int)) H
theorem sc_divisor_of : FnScope ["one", "other"] ["one", "other"] (defScope s_divisor_of) := ⟨rfl, rfl, rfl, by decide +kernel, rfl, by decide +kernel, by decide +kernel⟩
theorem gcd_step (c d : Int) : Int.gcd d (c % d) = Int.gcd c d := by
  have h := Int.gcd_add_mul_left_right d (c % d) (c / d)
  rw [Int.emod_add_mul_ediv] at h
  rw [← h, Int.gcd_comm]
theorem ok_divisor_of (T : Tx w K mg) : DefOk P w K mg base "divisor_of" 1 [] sp_divisor_of := by
  obtain ⟨fd, F⟩ := T.q_divisor_of
  refine DefOk.of (ps := ["one", "other"]) F T.g_divisor_of (fun _ _ _ _ _ _ us hl => match us, hl with | [_, _], _ => rfl) (FunD.ok0 F sc_divisor_of (fun vs H Q E h => ?_) (fun cdv A outer s H vs Q E hr h => ?_))
  · obtain ⟨a, b, rfl, _⟩ := h
    rfl
  · obtain ⟨a, b, rfl, ha, hb, hQ⟩ := h
    refine ⟨_, (pss_cons (ps_while PassesOwn.never (pt_cmpR op_gt (pv 1) pe_int (nomark _)) (pss_one (ps_par (i := 0) (j := 1) (by rfl) sc_divisor_of.nd rfl rfl (by decide) rfl rfl (pa_cons (pv 1) (pa_cons (pe_op op_mod (pv 0) (pv 1)) pa_nil)) (by rfl))))
      (pss_one (ps_ret (pv 0)))), ?_⟩
    refine while_by (fun σ H' => ∃ c d : Int, σ = [some (.int c), some (.int d)] ∧ H' = H ∧ 0 ≤ c ∧ 0 ≤ d ∧ Int.gcd c d = Int.gcd a b) (fun σ _ => match σ with | [_, some (.int d)] => d.toNat | _ => 0) ⟨a, b, rfl, rfl, ha, hb, rfl⟩ ?_ ?_
    · rintro σ H' ⟨c, d, rfl, rfl, hc, hd, e⟩
      refine ⟨_, rfl, _, _, rfl, rfl, _, rfl, ?_⟩
      by_cases h0 : 0 < d
      · rw [decide_eq_true h0]
        refine iteT ?_
        refine ⟨_, rfl, _, rfl, _, rfl, _, _, rfl, rfl, h0, _, _, rfl, ⟨d, c % d, rfl, rfl, hd, Int.emod_nonneg _ (by omega), ?_⟩, ?_⟩
        · rw [← e]
          exact gcd_step c d
        · show (c % d).toNat < d.toNat
          have := Int.emod_lt_of_pos c h0
          omega
      · rw [decide_eq_false h0]
        refine iteF ?_
        refine ⟨_, rfl, ?_⟩
        have e0 : d = 0 := by omega
        subst e0
        rw [Int.gcd_zero_right] at e
        have e2 : (Int.gcd a b : Int) = c := by omega
        rw [← e2]
        exact hQ
    · intro σ H' Q1 Q2 hQQ hc
      obtain ⟨v, e1, i, j, e2, e3, k, e4, q⟩ := hc
      exact ⟨v, e1, i, j, e2, e3, k, e4, hQQ _ _ q⟩
/-! ### ten, _law_ten -/
def sp_ten : Sp := fun vs H Q _ => ∃ n : Nat, vs = [.int (n : Int)] ∧ n < 64 ∧ Q (.int ((10 : Int) ^ n)) H
theorem sc_ten : FnScope ["power"] ["power"] (defScope s_ten) := ⟨rfl, rfl, rfl, by decide +kernel, rfl, by decide +kernel, by decide +kernel⟩
theorem ok_ten (T : Tx w K mg) : DefOk P w K mg base "ten" 1 [] sp_ten := by
  obtain ⟨fd, F⟩ := T.q_ten
  refine DefOk.of (ps := ["power"]) F T.g_ten (fun _ _ _ _ _ _ us hl => match us, hl with | [_], _ => rfl) (FunD.ok0 F sc_ten (fun vs H Q E h => ?_) (fun cdv A outer s H vs Q E hr h => ?_))
  · obtain ⟨n, rfl, _⟩ := h
    rfl
  · obtain ⟨n, rfl, hn, hQ⟩ := h
    obtain ⟨h1, h2, h3⟩ := tenS_ok hn
    refine ⟨_, (pss_one (ps_ret (pe_callTy call_int_str (by rfl) T.n_int (by decide +kernel) (pa_cons (pe_op op_add_str pe_str (pe_op op_mulS pe_str (pv 0))) pa_nil)))), ?_⟩
    exact ⟨_, rfl, _, n, rfl, rfl, by decide, by omega, by omega, _, _, rfl, rfl, by rw [sizeLine_eq]; show 1 + _ ≤ _; omega, _, _, rfl, h1, h2, hQ⟩
theorem sc_law_ten : FnScope ["_law_power"] ["_law_power"] (defScope s_law_ten) := ⟨rfl, rfl, rfl, by decide +kernel, rfl, by decide +kernel, by decide +kernel⟩
theorem ok_law_ten (T : Tx w K mg) : DefOk P w K mg base "_law_ten" 1 [] sp_ten := by
  obtain ⟨fd, F⟩ := T.q_law_ten
  refine DefOk.of (ps := ["_law_power"]) F T.g_law_ten (fun _ _ _ _ _ _ us hl => match us, hl with | [_], _ => rfl) (FunD.ok0 F sc_law_ten (fun vs H Q E h => ?_) (fun cdv A outer s H vs Q E hr h => ?_))
  · obtain ⟨n, rfl, _⟩ := h
    rfl
  · obtain ⟨n, rfl, hn, hQ⟩ := h
    obtain ⟨h1, h2, h3⟩ := tenS_ok hn
    refine ⟨_, (pss_one (ps_ret (pe_callTy call_int_str (by rfl) T.n_int (by decide +kernel) (pa_cons (pe_op op_add_str pe_str (pe_op op_mulS pe_str (pv 0))) pa_nil)))), ?_⟩
    exact ⟨_, rfl, _, n, rfl, rfl, by decide, by omega, by omega, _, _, rfl, rfl, by rw [sizeLine_eq]; show 1 + _ ≤ _; omega, _, _, rfl, h1, h2, hQ⟩
/-! ### Number(top, bottom) -/
def sp_init (K : PySem.W.Frag) : Sp := fun vs H Q _ => ∃ (x dx : Addr) (t b : Int), vs = [.ref x, .int t, .int b] ∧ H x = some (.ins (CN K) dx []) ∧ 0 < b ∧ Bd 8001 b ∧ Q .non (upd H x (.ins (CN K) dx (nf ((t : Rat) / (b : Rat)))))
theorem sc_N_init : FnScope ["self", "top", "bottom", "by"] ["self", "top", "bottom"] (defScope s_N_init) := ⟨rfl, rfl, rfl, by decide +kernel, rfl, by decide +kernel, by decide +kernel⟩
theorem fnok_init (T : Tx w K mg) : ∃ fd, FunD K "__init__" "Number.__init__" (defArgs s_N_init) (defBody s_N_init) (defScope s_N_init) [V.int 1] [] (He.ma K (CN K) "__init__") fd ∧ FnOk P w K mg base CX0 2 (He.ma K (CN K) "__init__") fd ["self", "top", "bottom"] (sp_init K) := by
  obtain ⟨fd, F⟩ := T.q_N_init
  refine ⟨fd, F, FunD.ok0 F sc_N_init (fun vs H Q E h => ?_) (fun cdv A outer s H vs Q E hr h => ?_)⟩
  · obtain ⟨x, dx, t, b, rfl, _⟩ := h
    rfl
  · obtain ⟨x, dx, t, b, rfl, hx, hb, hB, hQ⟩ := h
    refine ⟨_, (pss_cons (ps_set (i := 3) sc_N_init.nd rfl (Or.inl rfl) (pe_d (ok_divisor_of T) (hr.mono (by decide)) (pa_cons (pe_callB call_abs (by rfl) T.n_abs (by decide +kernel) (pa_cons (pv 1) pa_nil)) (pa_cons (pe_callB call_abs (by rfl) T.n_abs (by decide +kernel) (pa_cons (pv 2) pa_nil)) pa_nil))))
      (pss_cons (ps_if (pt_cmpR op_lt (pv 2) pe_int (nomark _)) (pss_one (ps_set (i := 3) sc_N_init.nd rfl (Or.inl rfl) (pe_op op_sub pe_int (pv 3)))) pss_nil)
      (pss_cons (ps_try_thru0 (pss_cons (ps_fld (pv 0) (pe_op op_fdivW (pv 2) (pv 3)) rfl)
      (pss_one (ps_fld (pv 0) (pe_op op_fdivW (pv 1) (pv 3)) rfl))))
      (pss_one (ps_if (pt_cmpR op_eq (pv 2) pe_int (nomark _)) (pss_one ps_never) pss_nil))))), ?_⟩
    have g0 := gcd_pos (t := t) hb
    have eg : (Int.gcd (if t < 0 then -t else t) (if b < 0 then -b else b) : Int) = (Int.gcd t b : Int) := by
      rw [if_neg (show ¬ b < 0 by omega)]
      split
      · rw [Int.neg_gcd]
      · rfl
    have hg : CDivW t (Int.gcd t b : Int) := by
      refine wide_div (b := 8001) g0 ?_ (by decide) (by decide)
      refine Nat.lt_of_le_of_lt ?_ hB
      have d1 : (Int.gcd t b : Int) ∣ b := Int.gcd_dvd_right ..
      have := Int.le_of_dvd hb d1
      omega
    refine ⟨_, rfl, _, rfl, _, rfl, _, rfl, _, _, rfl, by split <;> omega, by split <;> omega, ?_⟩
    rw [eg]
    refine ⟨_, rfl, _, _, rfl, rfl, _, rfl, ?_⟩
    rw [decide_eq_false (show ¬ b < 0 by omega)]
    refine iteF ?_
    refine ⟨_, rfl, _, rfl, _, _, rfl, rfl, ⟨hg.1, hg.2⟩, _, rfl, x, CN K, dx, _, rfl, hx, T.cls, T.no_bottom, by show 0 < 1000; decide, ?_⟩
    refine ⟨_, rfl, _, rfl, _, _, rfl, rfl, ⟨hg.1, hg.2⟩, _, rfl, x, CN K, dx, _, rfl, upd_same, T.cls, T.no_top, by show 1 < 1000; decide, ?_⟩
    refine ⟨_, rfl, rfl, _, rfl, ?_⟩
    rw [decide_eq_false (show ¬ V.int b = V.int 0 from fun z => by injection z with z; omega)]
    refine iteF ?_
    rw [upd_upd]
    have e1 : putF "top" (V.int (t / (Int.gcd t b : Int))) (putF "bottom" (V.int (b / (Int.gcd t b : Int))) []) = nf ((t : Rat) / (b : Rat)) := by
      rw [nf_put, ← mk_num hb, ← mk_den hb]
      rfl
    exact (congrArg (fun z => Q V.non (upd H x (.ins (CN K) dx z))) e1).mpr hQ
/-! ### making a Number, as an expression -/
def tN (K : PySem.W.Frag) (t : TA) : TE := fun σ H Q => t σ H fun vs H1 => ∃ n d : Int, (vs = [.int n, .int d] ∨ vs = [.int n] ∧ d = 1) ∧ 0 < d ∧ Bd 8001 d ∧ ∀ v H2, Same H1 H2 → NumV (CN K) H2 v ((n : Rat) / (d : Rat)) → Q v H2
def tN2 (K : PySem.W.Frag) (t : TA) : TE := fun σ H Q => t σ H fun vs H1 => ∃ n d : Int, vs = [.int n, .int d] ∧ 0 < d ∧ Bd 8001 d ∧ ∀ v H2, Same H1 H2 → NumV (CN K) H2 v ((n : Rat) / (d : Rat)) → Q v H2
def tN1 (K : PySem.W.Frag) (t : TA) : TE := fun σ H Q => t σ H fun vs H1 => ∃ n : Int, vs = [.int n] ∧ ∀ v H2, Same H1 H2 → NumV (CN K) H2 v (n : Rat) → Q v H2
theorem made_same {H : Hp} {x dx C : Addr} {fs : List (Str × V)} (h1 : H x = none) (h2 : H dx = none) : Same H (upd (upd (upd H dx (.own x)) x (.ins C dx [])) x (.ins C dx fs)) := fun a o e => by
  rw [upd_ne (ne_of_none e h1), upd_ne (ne_of_none e h1), upd_ne (ne_of_none e h2)]
  exact e
section
variable {X : Cx} {e : Expr} {es : List Expr} {t : TA} {p pos : Pos} {k : Nat}
theorem pe_N2 (T : Tx X.w X.K X.mg) (hr : Room 3 X.A) {e1 e2 : Expr} (ha : PA X [e1, e2] t) (hg : Gl X "Number" := by rfl) (he : starEach [e1, e2] X.env = (false, eval e1 X.env) :: starEach [e2] X.env := by rfl) (hpl : (backTo pos (starEach [e2] X.env)).any (·.1) = false := by rfl) :
    PE X (.Call (.Name "Number" p) [e1, e2] [] pos) (tN2 X.K t) := by
  refine ⟨fun pins s σ H Q I h => ?_⟩
  obtain ⟨fd, F, G⟩ := fnok_init (P := X.prog) (base := X.base) T
  obtain ⟨ds, hd, hb⟩ := FunD.binds1 (ps := ["self", "top", "bottom"]) F 3 1 (by simp) rfl (fun _ _ _ _ _ _ _ us its hl hi => match us, hl, its, hi with | [_, _, _], _, [_], _ => ⟨_, rfl, rfl⟩)
  refine wpAny_Call_Name_kw (ld_glob I hg T.g_Number ?_ (by decide))
  refine PySem.W.callWith_K (h₀ := X.base) I.ok.mod.kin T.mkr.kp (thn (ha.run pos pins s σ H _ I h) fun us s1 ⟨vs, H1, I1, r, q⟩ => ⟨I1.kIn, ?_⟩) he hpl
  obtain ⟨n, d, rfl, h0, hB, q⟩ := q
  refine run_make (dvs := []) T.mkr G hr hb hd pass0 I1 r fun x dx nx ndx ne => ⟨x, dx, n, d, rfl, upd_same, h0, hB, rfl, ?_⟩
  exact q _ _ (made_same nx ndx) ⟨x, rfl, dx, upd_same⟩
theorem pe_N1 (T : Tx X.w X.K X.mg) (hr : Room 3 X.A) {e1 : Expr} (ha : PA X [e1] t) (hg : Gl X "Number" := by rfl) (he : starEach [e1] X.env = (false, eval e1 X.env) :: starEach [] X.env := by rfl) (hpl : (backTo pos (starEach [] X.env)).any (·.1) = false := by rfl) :
    PE X (.Call (.Name "Number" p) [e1] [] pos) (tN1 X.K t) := by
  refine ⟨fun pins s σ H Q I h => ?_⟩
  obtain ⟨fd, F, G⟩ := fnok_init (P := X.prog) (base := X.base) T
  obtain ⟨ds, hd, hb⟩ := FunD.binds1 (ps := ["self", "top", "bottom"]) F 2 0 (by simp) rfl (fun _ _ _ _ _ _ _ us its hl hi => match us, hl, its, hi with | [_, _], _, [_], _ => ⟨_, rfl, rfl⟩)
  refine wpAny_Call_Name_kw (ld_glob I hg T.g_Number ?_ (by decide))
  refine PySem.W.callWith_K (h₀ := X.base) I.ok.mod.kin T.mkr.kp (thn (ha.run pos pins s σ H _ I h) fun us s1 ⟨vs, H1, I1, r, q⟩ => ⟨I1.kIn, ?_⟩) he hpl
  obtain ⟨n, rfl, q⟩ := q
  have e1 : ((n : Rat) / ((1 : Int) : Rat)) = (n : Rat) := by
    have : ((1 : Int) : Rat) = 1 := rfl
    rw [this]
    grind
  refine run_make (dvs := [V.int 1]) T.mkr G hr hb hd pass0 I1 r fun x dx nx ndx ne => ⟨x, dx, n, 1, rfl, upd_same, by decide, by unfold Bd; exact Nat.one_lt_two_pow (by decide), rfl, ?_⟩
  exact q _ _ (made_same nx ndx) ⟨x, rfl, dx, by rw [e1]; exact upd_same⟩
/-! ### the attributes of a Number -/
def tNum (K : PySem.W.Frag) (te : TE) (f : Rat → Int) : TE := fun σ H Q => te σ H fun x H1 => ∃ q, NumV (CN K) H1 x q ∧ Q (.int (f q)) H1
theorem pe_top (T : Tx X.w X.K X.mg) {te : TE} (he : PE X e te) (hb : attributeBase e "top" X.env (eval e X.env) = eval e X.env := by rfl) : PE X (.Attribute e "top" pos) (tNum X.K te (fun q => q.num)) := by
  refine ⟨fun pins s σ H Q I h => ?_⟩
  refine attr_of hb (thn (he.run pins s σ H _ I h) fun u s1 ⟨x, H1, I1, r, q, ⟨a, ex, dx, ea⟩, hq⟩ => ?_)
  subst ex
  obtain rfl : u = Value.ref a := r
  exact getattr_ok I1 ea T.cls T.no_top (nf_top q) fun u' s2 I2 ru => ⟨_, H1, I2, ru, hq⟩
theorem pe_bottom (T : Tx X.w X.K X.mg) {te : TE} (he : PE X e te) (hb : attributeBase e "bottom" X.env (eval e X.env) = eval e X.env := by rfl) : PE X (.Attribute e "bottom" pos) (tNum X.K te (fun q => (q.den : Int))) := by
  refine ⟨fun pins s σ H Q I h => ?_⟩
  refine attr_of hb (thn (he.run pins s σ H _ I h) fun u s1 ⟨x, H1, I1, r, q, ⟨a, ex, dx, ea⟩, hq⟩ => ?_)
  subst ex
  obtain rfl : u = Value.ref a := r
  exact getattr_ok I1 ea T.cls T.no_bottom (nf_bottom q) fun u' s2 I2 ru => ⟨_, H1, I2, ru, hq⟩
/-! ### a reading weakened -/
def mo (t : TE) : TE := fun σ H Q => ∃ R, t σ H R ∧ ∀ v H', R v H' → Q v H'
def moA (t : TA) : TA := fun σ H Q => ∃ R, t σ H R ∧ ∀ v H', R v H' → Q v H'
theorem pe_mo {te : TE} (h : PE X e te) : PE X e (mo te) := ⟨fun pins s σ H Q I ⟨R, a, b⟩ => thn (h.run pins s σ H R I a) fun _ _ ⟨v, H', I', r, q⟩ => ⟨v, H', I', r, b _ _ q⟩⟩
theorem pa_mo (h : PA X es t) : PA X es (moA t) := ⟨fun pos pins s σ H Q I ⟨R, a, b⟩ => thn (h.run pos pins s σ H R I a) fun _ _ ⟨v, H', I', r, q⟩ => ⟨v, H', I', r, b _ _ q⟩⟩
theorem pe_conv {te te' : TE} (h : PE X e te) (c : ∀ σ H Q, te' σ H Q → te σ H Q) : PE X e te' := ⟨fun pins s σ H Q I q => h.run pins s σ H Q I (c _ _ _ q)⟩
end
/-! ### methods of Number -/
def MOk (P : Program) (w : World) (K : PySem.W.Frag) (mg : Str → Option Value) (base : Heap) (m : Str) (k : Nat) (sp : Sp) : Prop :=
  ∃ (fd : FuncData) (ps : List Str), Binds K fd ps [] ∧ FnOk P w K mg base CX0 k (He.ma K (CN K) m) fd ps sp
theorem MOk.of {x' qual m : Str} {params : Arguments} {body : List Stmt} {scope : Scope} {fd : FuncData} {ps : List Str} {k : Nat} {sp : Sp} (F : FunD K x' qual params body scope [] [] (He.ma K (CN K) m) fd)
    (b : ∀ (kV doc pm : Value) (an : Option Addr) (cdv ct : Value) (us : List Value), us.length = ps.length → bindArgs (PySem.W.fnOf x' qual params body scope .none kV doc pm an cdv ct) ⟨us, []⟩ = pure (ps.zip us))
    (h : FnOk P w K mg base CX0 k (He.ma K (CN K) m) fd ps sp) : MOk P w K mg base m k sp := ⟨fd, ps, F.bindsN b, h⟩
def tM (K : PySem.W.Frag) (sp : Sp) (ta : TE) (t : TA) : TE := fun σ H Q => ta σ H fun x H1 => ∃ p, NumV (CN K) H1 x p ∧ t σ H1 fun vs H2 => sp (x :: vs) H2 Q E0
section
variable {X : Cx} {o e : Expr} {es : List Expr} {ta : TE} {t : TA} {apos pos : Pos} {k : Nat} {m : Str} {sp : Sp} {pl : Sem Bool}
theorem tM_conv {K : PySem.W.Frag} (h1 : ¬ m = "bottom") (h2 : ¬ m = "top") (σ : L2.St) (H : Hp) (Q : VK) (h : tM K sp ta t σ H Q) : tMeth (CN K) m sp [] E0 (mo ta) (moA t) σ H Q :=
  ⟨_, h, fun x H1 ⟨p, ⟨a, ex, dx, ea⟩, h3⟩ => ⟨a, dx, _, ex, ea, nf_no p h1 h2, _, h3, fun vs H2 h4 => by
    show sp (x :: (vs ++ [])) H2 Q E0
    rw [List.append_nil]
    exact h4⟩⟩
theorem pe_M (M : MOk X.prog X.w X.K X.mg X.base m k sp) (T : Tx X.w X.K X.mg) (hm : Meth X.K (CN X.K) m (He.ma X.K (CN X.K) m)) (h1 : ¬ m = "bottom") (h2 : ¬ m = "top") (hr : Room k X.A) (he : PE X o ta) (ha : PA X (e :: es) t)
    (ht : eval (.Call (.Attribute o m apos) (e :: es) [] pos) X.env = (do
      let ov ← eval o X.env
      standAt apos.atName
      let (f, first) ← holding [ov] (getMethod ov m pl)
      callWith pos f first (backTo pos (starEach (e :: es) X.env)) (backToKw pos (keywordEach [] X.env))) := by rfl)
    (hs : starEach (e :: es) X.env = (false, eval e X.env) :: starEach es X.env := by rfl) (hpl : (backTo pos (starEach es X.env)).any (·.1) = false := by rfl) :
    PE X (.Call (.Attribute o m apos) (e :: es) [] pos) (tM X.K sp ta t) := by
  obtain ⟨fd, ps, b, F⟩ := M
  exact pe_conv (pe_meth (pl := pl) (pe_mo he) T.cls hm F hr b .nil pass0 (pa_mo ha) hs hpl ht) (tM_conv h1 h2)
end
/-! ### more -/
def sp_more (K : PySem.W.Frag) : Sp := fun vs H Q _ => ∃ (x y : V) (p q : Rat), vs = [x, y] ∧ NumV (CN K) H x p ∧ NumV (CN K) H y q ∧ Sz 4000 p ∧ Sz 4000 q ∧ ∀ v H', Same H H' → NumV (CN K) H' v (p + q) → Q v H'
theorem sc_N_more : FnScope ["self", "other"] ["self", "other"] (defScope s_N_more) := ⟨rfl, rfl, rfl, by decide +kernel, rfl, by decide +kernel, by decide +kernel⟩
theorem ok_N_more (T : Tx w K mg) : MOk P w K mg base "more" 4 (sp_more K) := by
  obtain ⟨fd, F⟩ := T.q_N_more
  refine MOk.of (ps := ["self", "other"]) F (fun _ _ _ _ _ _ us hl => match us, hl with | [_, _], _ => rfl) (FunD.ok0 F sc_N_more (fun vs H Q E h => ?_) (fun cdv A outer s H vs Q E hr h => ?_))
  · obtain ⟨x, y, p, q, rfl, _⟩ := h
    rfl
  · obtain ⟨x, y, p, q, rfl, hp, hq, sp, sq, hQ⟩ := h
    refine ⟨_, (pss_one (ps_ret (pe_N2 T (hr.mono (by decide)) (pa_cons (pe_op op_add (pe_op op_mulW (pe_top T (pv 0)) (pe_bottom T (pv 1))) (pe_op op_mulW (pe_top T (pv 1)) (pe_bottom T (pv 0)))) (pa_cons (pe_op op_mulW (pe_bottom T (pv 0)) (pe_bottom T (pv 1))) pa_nil))))), ?_⟩
    have hd : Bd 8001 ((p.den : Int) * (q.den : Int)) := (sp.2.mul sq.2).mono (by decide)
    refine ⟨_, rfl, p, hp, _, rfl, q, hq, _, _, rfl, rfl, wide_mul sp.1 sq.2 (by decide) (by decide) (by decide), _, rfl, q, hq, _, rfl, p, hp, _, _, rfl, rfl, wide_mul sq.1 sp.2 (by decide) (by decide) (by decide), _, _, rfl, rfl,
      _, rfl, p, hp, _, rfl, q, hq, _, _, rfl, rfl, wide_mul sp.2 sq.2 (by decide) (by decide) (by decide), _, _, rfl, Int.mul_pos (dpos p) (dpos q), hd, fun v H2 s n => ?_⟩
    rw [qadd] at n
    exact hQ v H2 s n
/-! ### less -/
def sp_less (K : PySem.W.Frag) : Sp := fun vs H Q _ => ∃ (x y : V) (p q : Rat), vs = [x, y] ∧ NumV (CN K) H x p ∧ NumV (CN K) H y q ∧ Sz 4000 p ∧ Sz 4000 q ∧ ∀ v H', Same H H' → NumV (CN K) H' v (p - q) → Q v H'
theorem sc_N_less : FnScope ["self", "other"] ["self", "other"] (defScope s_N_less) := ⟨rfl, rfl, rfl, by decide +kernel, rfl, by decide +kernel, by decide +kernel⟩
theorem ok_N_less (T : Tx w K mg) : MOk P w K mg base "less" 4 (sp_less K) := by
  obtain ⟨fd, F⟩ := T.q_N_less
  refine MOk.of (ps := ["self", "other"]) F (fun _ _ _ _ _ _ us hl => match us, hl with | [_, _], _ => rfl) (FunD.ok0 F sc_N_less (fun vs H Q E h => ?_) (fun cdv A outer s H vs Q E hr h => ?_))
  · obtain ⟨x, y, p, q, rfl, _⟩ := h
    rfl
  · obtain ⟨x, y, p, q, rfl, hp, hq, sp, sq, hQ⟩ := h
    refine ⟨_, (pss_one (ps_ret (pe_N2 T (hr.mono (by decide)) (pa_cons (pe_op op_sub (pe_op op_mulW (pe_top T (pv 0)) (pe_bottom T (pv 1))) (pe_op op_mulW (pe_top T (pv 1)) (pe_bottom T (pv 0)))) (pa_cons (pe_op op_mulW (pe_bottom T (pv 0)) (pe_bottom T (pv 1))) pa_nil))))), ?_⟩
    have hd : Bd 8001 ((p.den : Int) * (q.den : Int)) := (sp.2.mul sq.2).mono (by decide)
    refine ⟨_, rfl, p, hp, _, rfl, q, hq, _, _, rfl, rfl, wide_mul sp.1 sq.2 (by decide) (by decide) (by decide), _, rfl, q, hq, _, rfl, p, hp, _, _, rfl, rfl, wide_mul sq.1 sp.2 (by decide) (by decide) (by decide), _, _, rfl, rfl,
      _, rfl, p, hp, _, rfl, q, hq, _, _, rfl, rfl, wide_mul sp.2 sq.2 (by decide) (by decide) (by decide), _, _, rfl, Int.mul_pos (dpos p) (dpos q), hd, fun v H2 s n => ?_⟩
    rw [qsub] at n
    exact hQ v H2 s n
/-! ### times -/
def sp_times (K : PySem.W.Frag) : Sp := fun vs H Q _ => ∃ (x y : V) (p q : Rat), vs = [x, y] ∧ NumV (CN K) H x p ∧ NumV (CN K) H y q ∧ Sz 4000 p ∧ Sz 4000 q ∧ ∀ v H', Same H H' → NumV (CN K) H' v (p * q) → Q v H'
theorem sc_N_times : FnScope ["self", "other"] ["self", "other"] (defScope s_N_times) := ⟨rfl, rfl, rfl, by decide +kernel, rfl, by decide +kernel, by decide +kernel⟩
theorem ok_N_times (T : Tx w K mg) : MOk P w K mg base "times" 4 (sp_times K) := by
  obtain ⟨fd, F⟩ := T.q_N_times
  refine MOk.of (ps := ["self", "other"]) F (fun _ _ _ _ _ _ us hl => match us, hl with | [_, _], _ => rfl) (FunD.ok0 F sc_N_times (fun vs H Q E h => ?_) (fun cdv A outer s H vs Q E hr h => ?_))
  · obtain ⟨x, y, p, q, rfl, _⟩ := h
    rfl
  · obtain ⟨x, y, p, q, rfl, hp, hq, sp, sq, hQ⟩ := h
    refine ⟨_, (pss_one (ps_ret (pe_N2 T (hr.mono (by decide)) (pa_cons (pe_op op_mulW (pe_top T (pv 0)) (pe_top T (pv 1))) (pa_cons (pe_op op_mulW (pe_bottom T (pv 0)) (pe_bottom T (pv 1))) pa_nil))))), ?_⟩
    have hd : Bd 8001 ((p.den : Int) * (q.den : Int)) := (sp.2.mul sq.2).mono (by decide)
    refine ⟨_, rfl, p, hp, _, rfl, q, hq, _, _, rfl, rfl, wide_mul sp.1 sq.1 (by decide) (by decide) (by decide),
      _, rfl, p, hp, _, rfl, q, hq, _, _, rfl, rfl, wide_mul sp.2 sq.2 (by decide) (by decide) (by decide), _, _, rfl, Int.mul_pos (dpos p) (dpos q), hd, fun v H2 s n => ?_⟩
    rw [qmul] at n
    exact hQ v H2 s n
/-! ### over, by a Number above nought -/
def sp_over (K : PySem.W.Frag) : Sp := fun vs H Q _ => ∃ (x y : V) (p q : Rat), vs = [x, y] ∧ NumV (CN K) H x p ∧ NumV (CN K) H y q ∧ Sz 4000 p ∧ Sz 4000 q ∧ 0 < q ∧ ∀ v H', Same H H' → NumV (CN K) H' v (p / q) → Q v H'
theorem sc_N_over : FnScope ["self", "other"] ["self", "other"] (defScope s_N_over) := ⟨rfl, rfl, rfl, by decide +kernel, rfl, by decide +kernel, by decide +kernel⟩
theorem ok_N_over (T : Tx w K mg) : MOk P w K mg base "over" 4 (sp_over K) := by
  obtain ⟨fd, F⟩ := T.q_N_over
  refine MOk.of (ps := ["self", "other"]) F (fun _ _ _ _ _ _ us hl => match us, hl with | [_, _], _ => rfl) (FunD.ok0 F sc_N_over (fun vs H Q E h => ?_) (fun cdv A outer s H vs Q E hr h => ?_))
  · obtain ⟨x, y, p, q, rfl, _⟩ := h
    rfl
  · obtain ⟨x, y, p, q, rfl, hp, hq, sp, sq, h0, hQ⟩ := h
    refine ⟨_, (pss_cons (ps_if (pt_cmpR op_eq (pe_top T (pv 1)) pe_int (nomark _)) (pss_one ps_never) pss_nil)
      (pss_one (ps_ret (pe_N2 T (hr.mono (by decide)) (pa_cons (pe_op op_mulW (pe_top T (pv 0)) (pe_bottom T (pv 1))) (pa_cons (pe_op op_mulW (pe_bottom T (pv 0)) (pe_top T (pv 1))) pa_nil)))))), ?_⟩
    have hn := num_pos h0
    have hd : Bd 8001 ((p.den : Int) * q.num) := (sp.2.mul sq.1).mono (by decide)
    refine ⟨_, rfl, q, hq, rfl, _, rfl, ?_⟩
    rw [decide_eq_false (show ¬ V.int q.num = V.int 0 from fun z => by injection z with z; omega)]
    refine iteF ?_
    refine ⟨_, rfl, p, hp, _, rfl, q, hq, _, _, rfl, rfl, wide_mul sp.1 sq.2 (by decide) (by decide) (by decide),
      _, rfl, p, hp, _, rfl, q, hq, _, _, rfl, rfl, wide_mul sp.2 sq.1 (by decide) (by decide) (by decide), _, _, rfl, Int.mul_pos (dpos p) hn, hd, fun v H2 s n => ?_⟩
    rw [qdiv p q (fun e => by rw [e] at h0; exact absurd h0 (by decide))] at n
    exact hQ v H2 s n
/-! ### below, floor, size -/
def sp_below (K : PySem.W.Frag) : Sp := fun vs H Q _ => ∃ (x y : V) (p q : Rat), vs = [x, y] ∧ NumV (CN K) H x p ∧ NumV (CN K) H y q ∧ Sz 4000 p ∧ Sz 4000 q ∧ Q (.bl (decide (p < q))) H
theorem sc_N_below : FnScope ["self", "other"] ["self", "other"] (defScope s_N_below) := ⟨rfl, rfl, rfl, by decide +kernel, rfl, by decide +kernel, by decide +kernel⟩
theorem ok_N_below (T : Tx w K mg) : MOk P w K mg base "below" 1 (sp_below K) := by
  obtain ⟨fd, F⟩ := T.q_N_below
  refine MOk.of (ps := ["self", "other"]) F (fun _ _ _ _ _ _ us hl => match us, hl with | [_, _], _ => rfl) (FunD.ok0 F sc_N_below (fun vs H Q E h => ?_) (fun cdv A outer s H vs Q E hr h => ?_))
  · obtain ⟨x, y, p, q, rfl, _⟩ := h
    rfl
  · obtain ⟨x, y, p, q, rfl, hp, hq, sp, sq, hQ⟩ := h
    refine ⟨_, (pss_one (ps_ret (pe_cmpR op_lt (pe_op op_mulW (pe_top T (pv 0)) (pe_bottom T (pv 1))) (pe_op op_mulW (pe_top T (pv 1)) (pe_bottom T (pv 0))) (nomark _)))), ?_⟩
    refine ⟨_, rfl, p, hp, _, rfl, q, hq, _, _, rfl, rfl, wide_mul sp.1 sq.2 (by decide) (by decide) (by decide), _, rfl, q, hq, _, rfl, p, hp, _, _, rfl, rfl, wide_mul sq.1 sp.2 (by decide) (by decide) (by decide), _, _, rfl, rfl, ?_⟩
    have e : decide (p.num * (q.den : Int) < q.num * (p.den : Int)) = decide (p < q) := by
      by_cases c : p < q
      · rw [decide_eq_true c, decide_eq_true ((Rat.lt_iff p q).mp c)]
      · rw [decide_eq_false c, decide_eq_false fun z => c ((Rat.lt_iff p q).mpr z)]
    show Q (.bl (decide (p.num * (q.den : Int) < q.num * (p.den : Int)))) H
    rw [e]
    exact hQ
def sp_floor (K : PySem.W.Frag) : Sp := fun vs H Q _ => ∃ (x : V) (p : Rat), vs = [x] ∧ NumV (CN K) H x p ∧ Sz 8000 p ∧ Q (.int p.floor) H
theorem sc_N_floor : FnScope ["self"] ["self"] (defScope s_N_floor) := ⟨rfl, rfl, rfl, by decide +kernel, rfl, by decide +kernel, by decide +kernel⟩
theorem ok_N_floor (T : Tx w K mg) : MOk P w K mg base "floor" 1 (sp_floor K) := by
  obtain ⟨fd, F⟩ := T.q_N_floor
  refine MOk.of (ps := ["self"]) F (fun _ _ _ _ _ _ us hl => match us, hl with | [_], _ => rfl) (FunD.ok0 F sc_N_floor (fun vs H Q E h => ?_) (fun cdv A outer s H vs Q E hr h => ?_))
  · obtain ⟨x, p, rfl, _⟩ := h
    rfl
  · obtain ⟨x, p, rfl, hp, sp, hQ⟩ := h
    refine ⟨_, (pss_one (ps_ret (pe_op op_fdivW (pe_top T (pv 0)) (pe_bottom T (pv 0))))), ?_⟩
    refine ⟨_, rfl, p, hp, _, rfl, p, hp, _, _, rfl, rfl, wide_div (dpos p) sp.2 (by decide) (by decide), ?_⟩
    show Q (.int (p.num / (p.den : Int))) H
    rw [← Rat.floor_def]
    exact hQ
def sp_size (K : PySem.W.Frag) : Sp := fun vs H Q _ => ∃ (x : V) (p : Rat), vs = [x] ∧ NumV (CN K) H x p ∧ Sz 8000 p ∧ 0 ≤ p ∧ ∀ v H', Same H H' → NumV (CN K) H' v p → Q v H'
theorem sc_N_size : FnScope ["self"] ["self"] (defScope s_N_size) := ⟨rfl, rfl, rfl, by decide +kernel, rfl, by decide +kernel, by decide +kernel⟩
theorem ok_N_size (T : Tx w K mg) : MOk P w K mg base "size" 4 (sp_size K) := by
  obtain ⟨fd, F⟩ := T.q_N_size
  refine MOk.of (ps := ["self"]) F (fun _ _ _ _ _ _ us hl => match us, hl with | [_], _ => rfl) (FunD.ok0 F sc_N_size (fun vs H Q E h => ?_) (fun cdv A outer s H vs Q E hr h => ?_))
  · obtain ⟨x, p, rfl, _⟩ := h
    rfl
  · obtain ⟨x, p, rfl, hp, sp, h0, hQ⟩ := h
    refine ⟨_, (pss_one (ps_ret (pe_N2 T (hr.mono (by decide)) (pa_cons (pe_callB call_abs (by rfl) T.n_abs (by decide +kernel) (pa_cons (pe_top T (pv 0)) pa_nil)) (pa_cons (pe_bottom T (pv 0)) pa_nil))))), ?_⟩
    have hn : 0 ≤ p.num := Rat.num_nonneg.mpr h0
    refine ⟨_, rfl, p, hp, _, rfl, _, rfl, p, hp, _, _, rfl, dpos p, sp.2.mono (by decide), fun v H2 s n => ?_⟩
    rw [if_neg (show ¬ p.num < 0 by omega), nd] at n
    exact hQ v H2 s n
section
variable {X : Cx} {o e : Expr} {es : List Expr} {ta : TE} {t : TA} {apos pos : Pos} {k : Nat} {m : Str} {sp : Sp} {pl : Sem Bool}
def tM0 (K : PySem.W.Frag) (sp : Sp) (ta : TE) : TE := fun σ H Q => ta σ H fun x H1 => ∃ p, NumV (CN K) H1 x p ∧ sp [x] H1 Q E0
theorem tM0_conv {K : PySem.W.Frag} (h1 : ¬ m = "bottom") (h2 : ¬ m = "top") (σ : L2.St) (H : Hp) (Q : VK) (h : tM0 K sp ta σ H Q) : tMeth (CN K) m sp [] E0 (mo ta) tNil σ H Q :=
  ⟨_, h, fun x H1 ⟨p, ⟨a, ex, dx, ea⟩, h3⟩ => ⟨a, dx, _, ex, ea, nf_no p h1 h2, h3⟩⟩
theorem pe_M0 (M : MOk X.prog X.w X.K X.mg X.base m k sp) (T : Tx X.w X.K X.mg) (hm : Meth X.K (CN X.K) m (He.ma X.K (CN X.K) m)) (h1 : ¬ m = "bottom") (h2 : ¬ m = "top") (hr : Room k X.A) (he : PE X o ta)
    (ht : eval (.Call (.Attribute o m apos) [] [] pos) X.env = (do
      let ov ← eval o X.env
      standAt apos.atName
      let (f, first) ← holding [ov] (getMethod ov m pl)
      callWith pos f first (backTo pos (starEach [] X.env)) (backToKw pos (keywordEach [] X.env))) := by rfl) :
    PE X (.Call (.Attribute o m apos) [] [] pos) (tM0 X.K sp ta) := by
  obtain ⟨fd, ps, b, F⟩ := M
  exact pe_conv (pe_meth0 (pl := pl) (pe_mo he) T.cls hm F hr b .nil pass0 ht) (tM0_conv h1 h2)
end
end
/-! ### the methods' calls -/
section
variable {X : Cx} {o e : Expr} {es : List Expr} {ta : TE} {t : TA} {apos pos : Pos} {pl : Sem Bool}
theorem pe_M_more (T : Tx X.w X.K X.mg) (hr : Room 4 X.A) (he : PE X o ta) (ha : PA X (e :: es) t)
    (ht : eval (.Call (.Attribute o "more" apos) (e :: es) [] pos) X.env = (do
      let ov ← eval o X.env
      standAt apos.atName
      let (f, first) ← holding [ov] (getMethod ov "more" pl)
      callWith pos f first (backTo pos (starEach (e :: es) X.env)) (backToKw pos (keywordEach [] X.env))) := by rfl)
    (hs : starEach (e :: es) X.env = (false, eval e X.env) :: starEach es X.env := by rfl) (hpl : (backTo pos (starEach es X.env)).any (·.1) = false := by rfl) :
    PE X (.Call (.Attribute o "more" apos) (e :: es) [] pos) (tM X.K (sp_more X.K) ta t) := pe_M (ok_N_more T) T T.m_more (by decide +kernel) (by decide +kernel) hr he ha ht hs hpl
theorem pe_M_less (T : Tx X.w X.K X.mg) (hr : Room 4 X.A) (he : PE X o ta) (ha : PA X (e :: es) t)
    (ht : eval (.Call (.Attribute o "less" apos) (e :: es) [] pos) X.env = (do
      let ov ← eval o X.env
      standAt apos.atName
      let (f, first) ← holding [ov] (getMethod ov "less" pl)
      callWith pos f first (backTo pos (starEach (e :: es) X.env)) (backToKw pos (keywordEach [] X.env))) := by rfl)
    (hs : starEach (e :: es) X.env = (false, eval e X.env) :: starEach es X.env := by rfl) (hpl : (backTo pos (starEach es X.env)).any (·.1) = false := by rfl) :
    PE X (.Call (.Attribute o "less" apos) (e :: es) [] pos) (tM X.K (sp_less X.K) ta t) := pe_M (ok_N_less T) T T.m_less (by decide +kernel) (by decide +kernel) hr he ha ht hs hpl
theorem pe_M_times (T : Tx X.w X.K X.mg) (hr : Room 4 X.A) (he : PE X o ta) (ha : PA X (e :: es) t)
    (ht : eval (.Call (.Attribute o "times" apos) (e :: es) [] pos) X.env = (do
      let ov ← eval o X.env
      standAt apos.atName
      let (f, first) ← holding [ov] (getMethod ov "times" pl)
      callWith pos f first (backTo pos (starEach (e :: es) X.env)) (backToKw pos (keywordEach [] X.env))) := by rfl)
    (hs : starEach (e :: es) X.env = (false, eval e X.env) :: starEach es X.env := by rfl) (hpl : (backTo pos (starEach es X.env)).any (·.1) = false := by rfl) :
    PE X (.Call (.Attribute o "times" apos) (e :: es) [] pos) (tM X.K (sp_times X.K) ta t) := pe_M (ok_N_times T) T T.m_times (by decide +kernel) (by decide +kernel) hr he ha ht hs hpl
theorem pe_M_over (T : Tx X.w X.K X.mg) (hr : Room 4 X.A) (he : PE X o ta) (ha : PA X (e :: es) t)
    (ht : eval (.Call (.Attribute o "over" apos) (e :: es) [] pos) X.env = (do
      let ov ← eval o X.env
      standAt apos.atName
      let (f, first) ← holding [ov] (getMethod ov "over" pl)
      callWith pos f first (backTo pos (starEach (e :: es) X.env)) (backToKw pos (keywordEach [] X.env))) := by rfl)
    (hs : starEach (e :: es) X.env = (false, eval e X.env) :: starEach es X.env := by rfl) (hpl : (backTo pos (starEach es X.env)).any (·.1) = false := by rfl) :
    PE X (.Call (.Attribute o "over" apos) (e :: es) [] pos) (tM X.K (sp_over X.K) ta t) := pe_M (ok_N_over T) T T.m_over (by decide +kernel) (by decide +kernel) hr he ha ht hs hpl
theorem pe_M_below (T : Tx X.w X.K X.mg) (hr : Room 1 X.A) (he : PE X o ta) (ha : PA X (e :: es) t)
    (ht : eval (.Call (.Attribute o "below" apos) (e :: es) [] pos) X.env = (do
      let ov ← eval o X.env
      standAt apos.atName
      let (f, first) ← holding [ov] (getMethod ov "below" pl)
      callWith pos f first (backTo pos (starEach (e :: es) X.env)) (backToKw pos (keywordEach [] X.env))) := by rfl)
    (hs : starEach (e :: es) X.env = (false, eval e X.env) :: starEach es X.env := by rfl) (hpl : (backTo pos (starEach es X.env)).any (·.1) = false := by rfl) :
    PE X (.Call (.Attribute o "below" apos) (e :: es) [] pos) (tM X.K (sp_below X.K) ta t) := pe_M (ok_N_below T) T T.m_below (by decide +kernel) (by decide +kernel) hr he ha ht hs hpl
theorem pe_M_floor (T : Tx X.w X.K X.mg) (hr : Room 1 X.A) (he : PE X o ta)
    (ht : eval (.Call (.Attribute o "floor" apos) [] [] pos) X.env = (do
      let ov ← eval o X.env
      standAt apos.atName
      let (f, first) ← holding [ov] (getMethod ov "floor" pl)
      callWith pos f first (backTo pos (starEach [] X.env)) (backToKw pos (keywordEach [] X.env))) := by rfl) :
    PE X (.Call (.Attribute o "floor" apos) [] [] pos) (tM0 X.K (sp_floor X.K) ta) := pe_M0 (ok_N_floor T) T T.m_floor (by decide +kernel) (by decide +kernel) hr he ht
theorem pe_M_size (T : Tx X.w X.K X.mg) (hr : Room 4 X.A) (he : PE X o ta)
    (ht : eval (.Call (.Attribute o "size" apos) [] [] pos) X.env = (do
      let ov ← eval o X.env
      standAt apos.atName
      let (f, first) ← holding [ov] (getMethod ov "size" pl)
      callWith pos f first (backTo pos (starEach [] X.env)) (backToKw pos (keywordEach [] X.env))) := by rfl) :
    PE X (.Call (.Attribute o "size" apos) [] [] pos) (tM0 X.K (sp_size X.K) ta) := pe_M0 (ok_N_size T) T T.m_size (by decide +kernel) (by decide +kernel) hr he ht
end
end Fg
set_option Elab.async false
set_option linter.all false
set_option maxRecDepth 100000
set_option maxHeartbeats 4000000
/-! B2: data on the heap, isinstance, the own == of Numbers. -/
namespace Fg
open PySem PySem.Spec PyProof.Rows L2
/-! ### data -/
/-- what is handed to the checkers -/
inductive D where
  | non
  | bl (b : Bool)
  | int (i : Int)
  | str (x : Str)
  | num (q : Rat)
  | tup (xs : List D)
  | lst (xs : List D)
  | dic
section
variable (C : Addr) (M : Addr → Prop) (H : Hp)
mutual
/-- v is that datum; no list of it is among M (those that are changed) -/
def Rep : V → D → Prop
  | v, .non => v = .non
  | v, .bl b => v = .bl b
  | v, .int i => v = .int i
  | v, .str x => v = .str x
  | v, .num q => NumV C H v q
  | v, .tup ds => ∃ a vs, v = .ref a ∧ H a = some (.tup vs) ∧ Reps vs ds
  | v, .lst ds => ∃ a vs, v = .ref a ∧ ¬ M a ∧ H a = some (.lst vs) ∧ Reps vs ds
  | v, .dic => ∃ a, v = .ref a ∧ H a = some (.dK [])
def Reps : List V → List D → Prop
  | [], [] => True
  | v :: vs, d :: ds => Rep v d ∧ Reps vs ds
  | _, _ => False
end
end
section
variable {C : Addr} {M : Addr → Prop} {H H' : Hp}
theorem reps_cons {v : V} {vs : List V} {d : D} {ds : List D} : Reps C M H (v :: vs) (d :: ds) ↔ Rep C M H v d ∧ Reps C M H vs ds := by
  constructor <;> intro h
  · unfold Reps at h
    exact h
  · unfold Reps
    exact h
theorem Reps.length : ∀ {vs : List V} {ds : List D}, Reps C M H vs ds → vs.length = ds.length
  | [], [], _ => rfl
  | _ :: vs, _ :: ds, h => by
    simp [Reps.length (reps_cons.mp h).2]
  | [], _ :: _, h => by
    unfold Reps at h
    exact h.elim
  | _ :: _, [], h => by
    unfold Reps at h
    exact h.elim
theorem reps_nil : Reps C M H [] [] := by
  unfold Reps
  trivial
theorem Reps.get : ∀ {vs : List V} {ds : List D} {i : Nat} {d : D}, Reps C M H vs ds → ds[i]? = some d → ∃ v, vs[i]? = some v ∧ Rep C M H v d
  | [], [], _, _, _, e => by simp at e
  | v :: vs, d :: ds, 0, d', h, e => by
    simp at e
    subst e
    exact ⟨v, rfl, (reps_cons.mp h).1⟩
  | v :: vs, d :: ds, i + 1, d', h, e => by
    obtain ⟨w, h1, h2⟩ := Reps.get (i := i) (reps_cons.mp h).2 (by simpa using e)
    exact ⟨w, by simpa using h1, h2⟩
  | [], _ :: _, _, _, h, _ => by
    unfold Reps at h
    exact h.elim
  | _ :: _, [], _, _, h, _ => by
    unfold Reps at h
    exact h.elim
theorem Reps.getV : ∀ {vs : List V} {ds : List D} {i : Nat} {v : V}, Reps C M H vs ds → vs[i]? = some v → ∃ d, ds[i]? = some d ∧ Rep C M H v d
  | [], [], _, _, _, e => by simp at e
  | v :: vs, d :: ds, 0, v', h, e => by
    simp at e
    subst e
    exact ⟨d, rfl, (reps_cons.mp h).1⟩
  | v :: vs, d :: ds, i + 1, v', h, e => by
    obtain ⟨w, h1, h2⟩ := Reps.getV (i := i) (reps_cons.mp h).2 (by simpa using e)
    exact ⟨w, by simpa using h1, h2⟩
  | [], _ :: _, _, _, h, _ => by
    unfold Reps at h
    exact h.elim
  | _ :: _, [], _, _, h, _ => by
    unfold Reps at h
    exact h.elim
theorem Reps.append : ∀ {vs : List V} {ds : List D} {ws : List V} {es : List D}, Reps C M H vs ds → Reps C M H ws es → Reps C M H (vs ++ ws) (ds ++ es)
  | [], [], _, _, _, h => h
  | v :: vs, d :: ds, _, _, h, h2 => by
    have h3 := reps_cons.mp h
    exact reps_cons.mpr ⟨h3.1, Reps.append h3.2 h2⟩
  | [], _ :: _, _, _, h, _ => by
    unfold Reps at h
    exact h.elim
  | _ :: _, [], _, _, h, _ => by
    unfold Reps at h
    exact h.elim
theorem Reps.take (n : Nat) : ∀ {vs : List V} {ds : List D}, Reps C M H vs ds → Reps C M H (vs.take n) (ds.take n) := by
  induction n with
  | zero => intro vs ds _; exact reps_nil
  | succ n ih =>
    intro vs ds h
    match vs, ds, h with
    | [], [], _ => exact reps_nil
    | v :: vs, d :: ds, h =>
      have h3 := reps_cons.mp h
      exact reps_cons.mpr ⟨h3.1, ih h3.2⟩
    | [], _ :: _, h => unfold Reps at h; exact h.elim
    | _ :: _, [], h => unfold Reps at h; exact h.elim
theorem Reps.drop (n : Nat) : ∀ {vs : List V} {ds : List D}, Reps C M H vs ds → Reps C M H (vs.drop n) (ds.drop n) := by
  induction n with
  | zero => intro vs ds h; exact h
  | succ n ih =>
    intro vs ds h
    match vs, ds, h with
    | [], [], _ => exact reps_nil
    | v :: vs, d :: ds, h => exact ih (reps_cons.mp h).2
    | [], _ :: _, h => unfold Reps at h; exact h.elim
    | _ :: _, [], h => unfold Reps at h; exact h.elim
theorem Reps.reverse : ∀ {vs : List V} {ds : List D}, Reps C M H vs ds → Reps C M H vs.reverse ds.reverse
  | [], [], _ => reps_nil
  | v :: vs, d :: ds, h => by
    have h3 := reps_cons.mp h
    rw [List.reverse_cons, List.reverse_cons]
    exact Reps.append (Reps.reverse h3.2) (reps_cons.mpr ⟨h3.1, reps_nil⟩)
  | [], _ :: _, h => by
    unfold Reps at h
    exact h.elim
  | _ :: _, [], h => by
    unfold Reps at h
    exact h.elim
/-- what stays of the heap, but for M -/
def Keep (M : Addr → Prop) (H H' : Hp) : Prop := ∀ b o, H b = some o → ¬ M b → H' b = some o
theorem Keep.refl : Keep M H H := fun _ _ h _ => h
theorem Keep.trans {H1 : Hp} (a : Keep M H H1) (b : Keep M H1 H') : Keep M H H' := fun c o h n => b c o (a c o h n) n
theorem Keep.ofSame (s : Same H H') : Keep M H H' := fun c o h _ => s c o h
/-- M are lists -/
def Lsts (M : Addr → Prop) (H : Hp) : Prop := ∀ a, M a → ∃ xs, H a = some (.lst xs)
theorem Keep.get {a : Addr} {o : HO} (k : Keep M H H') (l : Lsts M H) (h : H a = some o) (n : ∀ xs, o ≠ .lst xs) : H' a = some o := k a o h fun m => by
  obtain ⟨xs, e⟩ := l a m
  rw [h] at e
  exact n xs (Option.some.inj e)
theorem NumV.keep {v : V} {q : Rat} (k : Keep M H H') (l : Lsts M H) (h : NumV C H v q) : NumV C H' v q := by
  obtain ⟨a, e, dx, ea⟩ := h
  exact ⟨a, e, dx, k.get l ea (fun xs z => by cases z)⟩
mutual
theorem Rep.keep (k : Keep M H H') (l : Lsts M H) : ∀ {v : V} {d : D}, Rep C M H v d → Rep C M H' v d
  | v, .non, h => by unfold Rep at *; exact h
  | v, .bl b, h => by unfold Rep at *; exact h
  | v, .int i, h => by unfold Rep at *; exact h
  | v, .str x, h => by unfold Rep at *; exact h
  | v, .num q, h => by
    unfold Rep at *
    exact NumV.keep k l h
  | v, .tup ds, h => by
    unfold Rep at *
    obtain ⟨a, vs, e, ea, hr⟩ := h
    exact ⟨a, vs, e, k.get l ea (fun xs z => by cases z), Reps.keep k l hr⟩
  | v, .lst ds, h => by
    unfold Rep at *
    obtain ⟨a, vs, e, n, ea, hr⟩ := h
    exact ⟨a, vs, e, n, k _ _ ea n, Reps.keep k l hr⟩
  | v, .dic, h => by
    unfold Rep at *
    obtain ⟨a, e, ea⟩ := h
    exact ⟨a, e, k.get l ea (fun xs z => by cases z)⟩
theorem Reps.keep (k : Keep M H H') (l : Lsts M H) : ∀ {vs : List V} {ds : List D}, Reps C M H vs ds → Reps C M H' vs ds
  | [], [], h => reps_nil
  | v :: vs, d :: ds, h => by
    have h3 := reps_cons.mp h
    exact reps_cons.mpr ⟨Rep.keep k l h3.1, Reps.keep k l h3.2⟩
  | [], _ :: _, h => by
    unfold Reps at h
    exact h.elim
  | _ :: _, [], h => by
    unfold Reps at h
    exact h.elim
end
mutual
theorem Rep.same (s : Same H H') : ∀ {v : V} {d : D}, Rep C M H v d → Rep C M H' v d
  | v, .non, h => by unfold Rep at *; exact h
  | v, .bl b, h => by unfold Rep at *; exact h
  | v, .int i, h => by unfold Rep at *; exact h
  | v, .str x, h => by unfold Rep at *; exact h
  | v, .num q, h => by
    unfold Rep at *
    exact h.same s
  | v, .tup ds, h => by
    unfold Rep at *
    obtain ⟨a, vs, e, ea, hr⟩ := h
    exact ⟨a, vs, e, s _ _ ea, Reps.same s hr⟩
  | v, .lst ds, h => by
    unfold Rep at *
    obtain ⟨a, vs, e, n, ea, hr⟩ := h
    exact ⟨a, vs, e, n, s _ _ ea, Reps.same s hr⟩
  | v, .dic, h => by
    unfold Rep at *
    obtain ⟨a, e, ea⟩ := h
    exact ⟨a, e, s _ _ ea⟩
theorem Reps.same (s : Same H H') : ∀ {vs : List V} {ds : List D}, Reps C M H vs ds → Reps C M H' vs ds
  | [], [], h => reps_nil
  | v :: vs, d :: ds, h => by
    have h3 := reps_cons.mp h
    exact reps_cons.mpr ⟨Rep.same s h3.1, Reps.same s h3.2⟩
  | [], _ :: _, h => by
    unfold Reps at h
    exact h.elim
  | _ :: _, [], h => by
    unfold Reps at h
    exact h.elim
end
end
/-! ### its class -/
def D.isInt : D → Bool
  | .int _ => true
  | _ => false
def D.isBl : D → Bool
  | .bl _ => true
  | _ => false
def D.isTup : D → Bool
  | .tup _ => true
  | _ => false
def D.isNum : D → Bool
  | .num _ => true
  | _ => false
def tyD (C : Addr) : D → Value
  | .non => .type "NoneType"
  | .bl _ => .type "bool"
  | .int _ => .type "int"
  | .str _ => .type "str"
  | .num _ => .ref C
  | .tup _ => .type "tuple"
  | .lst _ => .type "list"
  | .dic => .type "dict"
structure TyN (K : PySem.W.Frag) : Prop where
  cl : Cls K (CN K)
  tn : ∀ a ∈ tyNames, PySem.W.kitOne K (.type a) (.ref (CN K)) = some false
  nt : ∀ a ∈ ["int", "bool", "tuple", "str"], PySem.W.kitOne K (.ref (CN K)) (.type a) = some false
  nn : PySem.W.kitOne K (.ref (CN K)) (.ref (CN K)) = some true
  ha : PySem.W.findIn K (.ref (CN K)) "__class__" = some (some (.builtin "object.__class__"))
  ne : PySem.W.findIn K (.ref (CN K)) "__ne__" = some (some (.builtin "object.__ne__"))
  hn : PySem.W.specialIn K (.builtin "object.__class__") "__get__" = some (some (.builtin "getset_descriptor.__get__"))
  htk : PySem.W.takesIn K (.builtin "object.__class__") = some true
  hm : PySem.W.mroIn K (CN K) (.type "object") = some true
theorem Tx.ty {w : World} {K : PySem.W.Frag} {mg : Str → Option Value} (T : Tx w K mg) : TyN K := by
  have e := T.ex
  unfold exB at e
  simp only [Bool.and_eq_true, List.all_eq_true, isoB, decide_eq_true_eq] at e
  obtain ⟨⟨⟨⟨⟨⟨⟨⟨_, h2⟩, h3⟩, h4⟩, h5⟩, h6⟩, h7⟩, h8⟩, h9⟩ := e
  exact ⟨T.cls, h2, h3, h4, He.eqO_ok h5, He.eqO_ok h6, He.eqO_ok h7, h8, h9⟩
theorem TyN.num {K : PySem.W.Frag} (Y : TyN K) {H : Hp} {a dx : Addr} {fs : List (Str × V)} (h : H a = some (.ins (CN K) dx fs)) : TyX K H (.ref a) (.ref (CN K)) := .base (.ins h Y.cl Y.ha Y.hn Y.htk Y.hm)
theorem TyN.of {K : PySem.W.Frag} (Y : TyN K) {M : Addr → Prop} {H : Hp} {v : V} {d : D} (h : Rep (CN K) M H v d) : TyX K H v (tyD (CN K) d) := by
  cases d <;> unfold Rep at h
  · subst h; exact .base .non
  · subst h; exact .base (.bl _)
  · subst h; exact .base (.int _)
  · subst h; exact .base (.str _)
  · obtain ⟨a, rfl, dx, e⟩ := h
    exact Y.num e
  · obtain ⟨a, vs, rfl, e, _⟩ := h
    exact .base (.tup e)
  · obtain ⟨a, vs, rfl, _, e, _⟩ := h
    exact .base (.lst e)
  · obtain ⟨a, rfl, e⟩ := h
    exact .base (.dK e)
theorem TyN.kTup {K : PySem.W.Frag} (Y : TyN K) : ∀ d : D, PySem.W.kitOne K (tyD (CN K) d) (.type "tuple") = some d.isTup
  | .non => kit_ty (a := "NoneType") (b := "tuple") (r := false) (by decide +kernel)
  | .bl _ => kit_ty (a := "bool") (b := "tuple") (r := false) (by decide +kernel)
  | .int _ => kit_ty (a := "int") (b := "tuple") (r := false) (by decide +kernel)
  | .str _ => kit_ty (a := "str") (b := "tuple") (r := false) (by decide +kernel)
  | .tup _ => kit_ty (a := "tuple") (b := "tuple") (r := true) (by decide +kernel)
  | .lst _ => kit_ty (a := "list") (b := "tuple") (r := false) (by decide +kernel)
  | .dic => kit_ty (a := "dict") (b := "tuple") (r := false) (by decide +kernel)
  | .num _ => Y.nt "tuple" (by simp)
theorem TyN.kInt {K : PySem.W.Frag} (Y : TyN K) : ∀ d : D, PySem.W.kitOne K (tyD (CN K) d) (.type "int") = some (d.isInt || d.isBl)
  | .non => kit_ty (a := "NoneType") (b := "int") (r := false) (by decide +kernel)
  | .bl _ => kit_ty (a := "bool") (b := "int") (r := true) (by decide +kernel)
  | .int _ => kit_ty (a := "int") (b := "int") (r := true) (by decide +kernel)
  | .str _ => kit_ty (a := "str") (b := "int") (r := false) (by decide +kernel)
  | .tup _ => kit_ty (a := "tuple") (b := "int") (r := false) (by decide +kernel)
  | .lst _ => kit_ty (a := "list") (b := "int") (r := false) (by decide +kernel)
  | .dic => kit_ty (a := "dict") (b := "int") (r := false) (by decide +kernel)
  | .num _ => Y.nt "int" (by simp)
theorem TyN.kBool {K : PySem.W.Frag} (Y : TyN K) : ∀ d : D, PySem.W.kitOne K (tyD (CN K) d) (.type "bool") = some d.isBl
  | .non => kit_ty (a := "NoneType") (b := "bool") (r := false) (by decide +kernel)
  | .bl _ => kit_ty (a := "bool") (b := "bool") (r := true) (by decide +kernel)
  | .int _ => kit_ty (a := "int") (b := "bool") (r := false) (by decide +kernel)
  | .str _ => kit_ty (a := "str") (b := "bool") (r := false) (by decide +kernel)
  | .tup _ => kit_ty (a := "tuple") (b := "bool") (r := false) (by decide +kernel)
  | .lst _ => kit_ty (a := "list") (b := "bool") (r := false) (by decide +kernel)
  | .dic => kit_ty (a := "dict") (b := "bool") (r := false) (by decide +kernel)
  | .num _ => Y.nt "bool" (by simp)
theorem TyN.kNum {K : PySem.W.Frag} (Y : TyN K) (d : D) : PySem.W.kitOne K (tyD (CN K) d) (.ref (CN K)) = some d.isNum := by
  cases d <;> first | exact Y.nn | exact Y.tn _ (by simp [tyNames])
/-! ### isinstance of data -/
section
variable {X : Cx} {e : Expr} {te : TE} {p pos : Pos}
theorem pe_num (T : Tx X.w X.K X.mg) (hg : Gl X "Number" := by rfl) : PE X (.Name "Number" p) (tC (.ref (CN X.K))) := pe_glob hg T.g_Number rfl
theorem pe_way (T : Tx X.w X.K X.mg) (hg : Gl X "WAY" := by rfl) : PE X (.Name "WAY" p) (tC (.str "half even")) := by
  obtain ⟨t, e⟩ := T.way
  exact pe_glob hg e ⟨t, rfl⟩
theorem pe_half (T : Tx X.w X.K X.mg) (hg : Gl X "HALF" := by rfl) : PE X (.Name "HALF" p) (tC (.int 2)) := by
  obtain ⟨t, e⟩ := T.hlf
  exact pe_glob hg e ⟨t, rfl⟩
end
/-- what isinstance asks of a datum -/
theorem isi_tup {K : PySem.W.Frag} (Y : TyN K) {M : Addr → Prop} {H : Hp} {v : V} {d : D} {Q : VK} (h : Rep (CN K) M H v d) (q : Q (.bl d.isTup) H) : rIsi K [v, .ty "tuple"] H Q := ⟨v, _, _, _, _, rfl, .ty _, Y.of h, Y.kTup d, q⟩
theorem isi_int {K : PySem.W.Frag} (Y : TyN K) {M : Addr → Prop} {H : Hp} {v : V} {d : D} {Q : VK} (h : Rep (CN K) M H v d) (q : Q (.bl (d.isInt || d.isBl)) H) : rIsi K [v, .ty "int"] H Q := ⟨v, _, _, _, _, rfl, .ty _, Y.of h, Y.kInt d, q⟩
theorem isi_bool {K : PySem.W.Frag} (Y : TyN K) {M : Addr → Prop} {H : Hp} {v : V} {d : D} {Q : VK} (h : Rep (CN K) M H v d) (q : Q (.bl d.isBl) H) : rIsi K [v, .ty "bool"] H Q := ⟨v, _, _, _, _, rfl, .ty _, Y.of h, Y.kBool d, q⟩
theorem isi_num {K : PySem.W.Frag} (Y : TyN K) {M : Addr → Prop} {H : Hp} {v : V} {d : D} {Q : VK} (h : Rep (CN K) M H v d) (q : Q (.bl d.isNum) H) : rIsi K [v, .ref (CN K)] H Q := ⟨v, _, _, _, _, rfl, .own _, Y.of h, Y.kNum d, q⟩
end Fg
set_option Elab.async false
set_option linter.all false
set_option maxRecDepth 100000
set_option maxHeartbeats 4000000
/-! D2: == and != of Numbers; rounding. -/
namespace PySem.W
open PySem PySem.Spec PySem.Calls PyProof.Rows Builtin
section
variable {prog : Program} {w : World} {A : Around} {E : Value → Shared → Prop} {s : Shared} {K : Frag} {x C L f : Addr} {h₀ : Heap} {m : Str → Option Value} {ox : Obj} {od : Option Obj} {name : Str} {b tb : Value}
theorem fg_ifBound_B {M : Model} {id : String} {args : List Value} {Q : Option Value → Shared → Prop} (X : K.In s.heap) (I : InstAt s.heap x ox C od) (hs : findIn K (.ref C) name = some (some (.builtin id)))
    (hb : ∀ self, bindSpecial (.builtin id) self = pure (.builtin id, [self])) (h : wpAny M A (call (.builtin id) (.ref x :: args)) (fun v => Q (some v)) E s) : wpAny M A (callSpecialIfBound? (.ref x) name args) Q E s := by
  simp only [callSpecialIfBound?, bindSpecialIfBound?]
  refine wpAny_holding (wpAny_bind (wpAny_bind (wpAny_bind (I.type.here ((looks_findIn X hs).here ?_)))))
  refine wpAny_bind (wpAny_askSetting (wpAny_ite ?_))
  have fin : wpAny M A (call (.builtin id) ([.ref x] ++ args) >>= fun v => pure (some v)) Q E s := wpAny_bind (wpAny_mono h (fun v s' h' => wpAny_pure h') fun _ _ h' => h')
  split
  · exact wpAny_bind ((Looks.of_pure (hb _)).here (wpAny_pure (by exact fin)))
  · exact wpAny_tryCatch (wpAny_bind ((Looks.of_pure (hb _)).here (wpAny_pure (by exact fin))))
theorem fg_objNe {Q : Value → Shared → Prop} (hu : A.in1.units < cLine) (X : K.In s.heap) (I : InstAt s.heap x ox C od) (hm : mroIn K C (.type "object") = some true) (hr : findIn K (.ref C) "__eq__" = some (some (.ref f))) (hf : isFn K (.ref f) = true)
    (h : wpAny (model prog w) A.in1 (call (.ref f) [.ref x, b]) (fun v s' => ∃ c, v = .bool c ∧ Q (.bool (!c)) s') E s) : wpAny (model prog w) A (call (.builtin "object.__ne__") [.ref x, b]) Q E s := by
  refine wpAny_call (codeAny_call_builtin PySem.F.cmp_object.ne.plain PySem.F.cmpEntry_ne (check_slot (i := "object.__ne__") (owner := "object") (n := "__ne__") (by decide +kernel) (by decide +kernel) (I.type.andThen (looks_mroIn X hm)) (PySem.F.cmpArgs_ne _ _) ?_))
  unfold Builtin.«object.__ne__»
  refine wpAny_bind (m := slotArgs "__ne__" 1 _) (wpAny_pure ?_)
  refine wpAny_bind (m := cRoomFor _ _) (wpAny_cRoomFor hu ?_)
  refine wpAny_bind (m := callSpecialIfBound? (.ref x) (Str.ofString "__eq__") _) (ifBound_K X I hr hf (wpAny_mono h (fun r s' hq => ?_) fun _ _ y => y))
  obtain ⟨c, rfl, q⟩ := hq
  refine wpAny_bind (wpAny_truthy_bool ?_)
  exact wpAny_pure q
theorem fg_ne_K {Q : Value → Shared → Prop} (hu : A.units < cLine) (hu1 : A.in1.units < cLine) (F : Fr h₀ L s.heap m) (X₀ : K.In h₀) (I : InstAt s.heap x ox C od) (hb : Looks (model prog w) s.heap (typeOf b) tb) (hn : notFirst K C tb = true)
    (hs : findIn K (.ref C) "__ne__" = some (some (.builtin "object.__ne__"))) (hm : mroIn K C (.type "object") = some true) (hr : findIn K (.ref C) "__eq__" = some (some (.ref f))) (hf : isFn K (.ref f) = true)
    (h : wpAny (model prog w) A.in1 (call (.ref f) [.ref x, b]) (fun v s' => ∃ c, v = .bool c ∧ Q (.bool (!c)) s') E s) : wpAny (model prog w) A (richCompare .NotEq (.ref x) b) Q E s := by
  have X := X₀.keeps F.keep
  have one : wpAny (model prog w) A (tryCompare (.ref x) "__ne__" b) (fun r s' => ∃ v, r = some v ∧ Q v s') E s := by
    unfold tryCompare
    refine wpAny_bind (fg_ifBound_B X I hs PySem.F.cmp_object.ne.bind (fg_objNe hu1 X I hm hr hf (wpAny_mono h (fun v s' hv => ?_) fun _ _ e => e)))
    obtain ⟨c, rfl, q⟩ := hv
    exact ⟨c, rfl, wpAny_pure ⟨_, rfl, q⟩⟩
  unfold richCompare
  simp only [oneThing_ref]
  refine wpAny_holding (wpAny_bind (wpAny_cRoomFor hu ?_))
  refine wpAny_bind (I.type.here (wpAny_bind (hb.here ?_)))
  split
  · rename_i q
    have e : subIn K tb (.ref C) = some false := by
      rcases Bool.or_eq_true_iff.mp hn with e | e
      · rw [beq_iff_eq.mp e] at q; simp at q
      · exact beq_iff_eq.mp e
    refine wpAny_bind ((looks_subIn X e).here ?_)
    simp only [Bool.false_eq_true, if_false]
    refine wpAny_bind (wpAny_mono one (fun r s' z => ?_) fun _ _ e => e)
    obtain ⟨v, rfl, hq⟩ := z
    exact wpAny_pure hq
  · refine wpAny_bind (wpAny_pure ?_)
    simp only [Bool.false_eq_true, if_false]
    refine wpAny_bind (wpAny_mono one (fun r s' z => ?_) fun _ _ e => e)
    obtain ⟨v, rfl, hq⟩ := z
    exact wpAny_pure hq
end
end PySem.W
namespace Fg
open PySem PySem.Spec PyProof.Rows L2
section
variable {P : Program} {w : World} {K : PySem.W.Frag} {mg : Str → Option Value} {base : Heap}
theorem rep_num {C : Addr} {M : Addr → Prop} {H : Hp} {v : V} {q : Rat} (h : NumV C H v q) : Rep C M H v (.num q) := by
  unfold Rep
  exact h
def sp_eq (K : PySem.W.Frag) : Sp := fun vs H Q _ => ∃ (x y : V) (p q : Rat), vs = [x, y] ∧ NumV (CN K) H x p ∧ NumV (CN K) H y q ∧ Q (.bl (decide (p = q))) H
theorem sc_N_eq : FnScope ["self", "other"] ["self", "other"] (defScope s_N_eq) := ⟨rfl, rfl, rfl, by decide +kernel, rfl, by decide +kernel, by decide +kernel⟩
theorem ok_N_eq (T : Tx w K mg) : MOk P w K mg base "__eq__" 1 (sp_eq K) := by
  obtain ⟨fd, F⟩ := T.q_N_eq
  refine MOk.of (ps := ["self", "other"]) F (fun _ _ _ _ _ _ us hl => match us, hl with | [_, _], _ => rfl) (FunD.ok0 F sc_N_eq (fun vs H Q E h => ?_) (fun cdv A outer s H vs Q E hr h => ?_))
  · obtain ⟨x, y, p, q, rfl, _⟩ := h
    rfl
  · obtain ⟨x, y, p, q, rfl, hp, hq, hQ⟩ := h
    refine ⟨_, (pss_cons (ps_if (pt_not (pt_val (pe_callB call_isi (by rfl) T.n_isinstance (by decide +kernel) (pa_cons (pv 1) (pa_cons (pe_num T) pa_nil))))) (pss_one (ps_ret pe_bl)) pss_nil)
      (pss_one (ps_ret (pe_and (pe_cmpR op_eq (pe_top T (pv 0)) (pe_top T (pv 1)) (nomark _)) (pe_one (pe_cmpR op_eq (pe_bottom T (pv 0)) (pe_bottom T (pv 1)) (nomark _))))))), ?_⟩
    refine ⟨_, rfl, _, _, _, _, _, rfl, .own _, T.ty.of (M := fun _ => False) (rep_num hq), T.ty.kNum _, _, rfl, ?_⟩
    refine iteF ?_
    refine ⟨_, rfl, p, hp, _, rfl, q, hq, rfl, _, rfl, ?_⟩
    have hn : (p.num = q.num ∧ p.den = q.den) ↔ p = q := ⟨fun z => Rat.ext z.1 z.2, fun z => by rw [z]; exact ⟨rfl, rfl⟩⟩
    by_cases c1 : p.num = q.num
    · rw [decide_eq_true (show V.int p.num = V.int q.num by rw [c1])]
      refine iteT ?_
      refine ⟨_, rfl, p, hp, _, rfl, q, hq, rfl, ?_⟩
      by_cases c2 : p.den = q.den
      · rw [decide_eq_true (hn.mp ⟨c1, c2⟩)] at hQ
        show Q (.bl (decide (V.int (p.den : Int) = V.int (q.den : Int)))) H
        rw [decide_eq_true (show V.int (p.den : Int) = V.int (q.den : Int) by rw [c2])]
        exact hQ
      · rw [decide_eq_false fun z => c2 (hn.mpr z).2] at hQ
        show Q (.bl (decide (V.int (p.den : Int) = V.int (q.den : Int)))) H
        rw [decide_eq_false (show ¬ V.int (p.den : Int) = V.int (q.den : Int) from fun z => c2 (by injection z with z; omega))]
        exact hQ
    · rw [decide_eq_false (show ¬ V.int p.num = V.int q.num from fun z => c1 (by injection z))]
      refine iteF ?_
      rw [decide_eq_false fun z => c1 (hn.mpr z).1] at hQ
      exact hQ
end
/-! ### == and != of Numbers -/
section
variable {X : Cx}
theorem run_eq (T : Tx X.w X.K X.mg) {A : Around} (hA : Room 1 A) (hf : A.frames = X.A.frames) {pins : List (Addr × Obj)} {σ : L2.St} {H : Hp} {s : Shared} (I : Inv X pins σ H s) {a b : Addr} {p q : Rat} (ha : NumA (CN X.K) H a p) (hb : NumA (CN X.K) H b q) :
    wpAny (model X.prog X.w) A (call (.ref (He.ma X.K (CN X.K) "__eq__")) [.ref a, .ref b]) (fun v s' => v = .bool (decide (p = q)) ∧ Inv X pins σ H s') X.xe s := by
  obtain ⟨fd, ps, b1, F⟩ := ok_N_eq (P := X.prog) (base := X.base) T
  have e0 : Env0 X.prog X.w X.K X.mg X.base A X.stack s H := by
    have e := I.env0
    exact ⟨by rw [hf]; exact e.frames, e.mod, e.bs, e.bsz, e.funs, e.frf, e.hok, e.bare⟩
  have hsp : sp_eq X.K [.ref a, .ref b] H (fun v H' => v = .bl (decide (p = q)) ∧ H' = H) E0 := ⟨_, _, p, q, rfl, ⟨a, rfl, ha⟩, ⟨b, rfl, hb⟩, rfl, rfl⟩
  have hl := F.len _ _ _ _ hsp
  have r2 : Vals [V.ref a, V.ref b] [Value.ref a, Value.ref b] := .cons rfl (.cons rfl .nil)
  refine wpAny_call (codeAny_mono (F.run A X.stack s H ⟨[.ref a, .ref b], []⟩ [.ref a, .ref b] [.ref a, .ref b] _ E0 hA e0 (by
    have := b1 s [.ref a, .ref b] I.kIn (by simpa using hl)
    simpa using this) r2 hsp) fun r s' hq => ?_)
  cases r with
  | error e => exact (show False from hq).elim
  | ok fl =>
    cases fl with
    | ret u =>
      obtain ⟨v, H', I', rv, ev, eH⟩ := I.after hq
      subst ev eH
      cases rv
      exact ⟨rfl, I'⟩
    | next => exact False.elim hq
    | brk => exact False.elim hq
    | cont => exact False.elim hq
theorem op_eqN (T : Tx X.w X.K X.mg) (hr : Room 2 X.A) : OpR X (compareOp .Eq) (fun x y H Q => ∃ p q, NumV (CN X.K) H x p ∧ NumV (CN X.K) H y q ∧ Q (.bl (decide (p = q))) H) := by
  intro pins s σ H x y v u Q I rx ry h
  obtain ⟨p, q, ⟨a, rfl, dx, ea⟩, ⟨b, rfl, dy, eb⟩, hq⟩ := h
  cases rx
  cases ry
  obtain ⟨mA, J, _⟩ := ins_get I.hok ea
  obtain ⟨mB, J', _⟩ := ins_get I.hok eb
  obtain ⟨od, J, _⟩ := J.look
  obtain ⟨od', J', _⟩ := J'.look
  obtain ⟨m, hF⟩ := I.fr
  have M := T.m_eq
  refine PySem.W.cmp_K (op := .Eq) (tb := .ref (CN X.K)) hr.units0 hF I.ok.mod.kin J J'.type (by simp [PySem.W.notFirst]) M.at_ M.fn ?_
  refine wpAny_mono (run_eq T (hr.mono (by decide)) rfl I ⟨dx, ea⟩ ⟨dy, eb⟩) (fun r s' z => ?_) fun _ _ x => x
  obtain ⟨rfl, I'⟩ := z
  exact ⟨.bl _, H, I', rfl, hq⟩
theorem op_neN (T : Tx X.w X.K X.mg) (hr : Room 2 X.A) : OpR X (compareOp .NotEq) (fun x y H Q => ∃ p q, NumV (CN X.K) H x p ∧ NumV (CN X.K) H y q ∧ Q (.bl (!decide (p = q))) H) := by
  intro pins s σ H x y v u Q I rx ry h
  obtain ⟨p, q, ⟨a, rfl, dx, ea⟩, ⟨b, rfl, dy, eb⟩, hq⟩ := h
  cases rx
  cases ry
  obtain ⟨mA, J, _⟩ := ins_get I.hok ea
  obtain ⟨mB, J', _⟩ := ins_get I.hok eb
  obtain ⟨od, J, _⟩ := J.look
  obtain ⟨od', J', _⟩ := J'.look
  obtain ⟨m, hF⟩ := I.fr
  have M := T.m_eq
  refine PySem.W.fg_ne_K (tb := .ref (CN X.K)) hr.units0 hr.in1.units0 hF I.ok.mod.kin J J'.type (by simp [PySem.W.notFirst]) T.ty.ne T.ty.hm M.at_ M.fn ?_
  refine wpAny_mono (run_eq T hr.in1 rfl I ⟨dx, ea⟩ ⟨dy, eb⟩) (fun r s' z => ?_) fun _ _ x => x
  obtain ⟨rfl, I'⟩ := z
  exact ⟨_, rfl, .bl _, H, I', rfl, hq⟩
end
end Fg
set_option Elab.async false
set_option linter.all false
set_option maxRecDepth 100000
set_option maxHeartbeats 4000000
/-! D3: the ways, counts_of, count_by, rounded, round_paper. -/
namespace Fg
open PySem PySem.Spec PyProof.Rows L2
section
variable {P : Program} {w : World} {K : PySem.W.Frag} {mg : Str → Option Value} {base : Heap}
/-! ### by_half -/
theorem half_num (p : Rat) : (2 * p.num = (p.den : Int)) ↔ 2 * p = 1 := by
  have h := half_iff (r := p.num) (dpos p)
  rw [nd] at h
  exact h
theorem half_num_lt (p : Rat) : ((p.den : Int) < 2 * p.num) ↔ 1 < 2 * p := by
  have h := half_lt (r := p.num) (dpos p)
  rw [nd] at h
  exact h
def sp_by_half (K : PySem.W.Frag) : Sp := fun vs H Q _ => ∃ (x : V) (p : Rat) (b : Bool), vs = [x, .bl b] ∧ NumV (CN K) H x p ∧ Q (.bl (byH p b)) H
theorem sc_by_half : FnScope ["part", "beyond"] ["part", "beyond"] (defScope s_by_half) := ⟨rfl, rfl, rfl, by decide +kernel, rfl, by decide +kernel, by decide +kernel⟩
theorem mul_two (i : Int) (h : Bd 6000 i) : CMulW 2 i := wide_mul (a := 2) (b := 6000) (by decide) h (by decide) (by decide) (by decide)
def sp_by_half2 (K : PySem.W.Frag) : Sp := fun vs H Q _ => ∃ (x : V) (p : Rat) (b : Bool), vs = [x, .bl b] ∧ NumV (CN K) H x p ∧ Sz 6000 p ∧ Q (.bl (byH p b)) H
theorem ok_by_half (T : Tx w K mg) : DefOk P w K mg base "by_half" 1 [] (sp_by_half2 K) := by
  obtain ⟨fd, F⟩ := T.q_by_half
  refine DefOk.of (ps := ["part", "beyond"]) F T.g_by_half (fun _ _ _ _ _ _ us hl => match us, hl with | [_, _], _ => rfl) (FunD.ok0 F sc_by_half (fun vs H Q E h => ?_) (fun cdv A outer s H vs Q E hr h => ?_))
  · obtain ⟨x, p, b, rfl, _⟩ := h
    rfl
  · obtain ⟨x, p, b, rfl, hp, sp, hQ⟩ := h
    refine ⟨_, (pss_cons (ps_if (pt_cmpR op_ne (pe_op op_mulW (pe_half T) (pe_top T (pv 0))) (pe_bottom T (pv 0)) (nomark _)) (pss_one (ps_ret (pe_cmpR op_gt (pe_op op_mulW (pe_half T) (pe_top T (pv 0))) (pe_bottom T (pv 0)) (nomark _)))) pss_nil)
      (pss_one (ps_ret (pv 1)))), ?_⟩
    refine ⟨_, rfl, p, hp, _, _, rfl, rfl, mul_two _ sp.1, _, rfl, p, hp, rfl, _, rfl, ?_⟩
    unfold byH at hQ
    by_cases c : 2 * p = 1
    · rw [if_pos c] at hQ
      rw [decide_eq_true (show V.int (2 * p.num) = V.int (p.den : Int) by rw [(half_num p).mpr c])]
      exact iteF ⟨_, rfl, hQ⟩
    · rw [if_neg c] at hQ
      rw [decide_eq_false (show ¬ V.int (2 * p.num) = V.int (p.den : Int) from fun z => c ((half_num p).mp (by injection z)))]
      refine iteT ?_
      refine ⟨_, rfl, p, hp, _, _, rfl, rfl, mul_two _ sp.1, _, rfl, p, hp, _, _, rfl, rfl, ?_⟩
      by_cases c2 : 1 < 2 * p
      · rw [decide_eq_true c2] at hQ
        show Q (.bl (decide ((p.den : Int) < 2 * p.num))) H
        rw [decide_eq_true ((half_num_lt p).mpr c2)]
        exact hQ
      · rw [decide_eq_false c2] at hQ
        show Q (.bl (decide ((p.den : Int) < 2 * p.num))) H
        rw [decide_eq_false fun z => c2 ((half_num_lt p).mp z)]
        exact hQ
/-! ### the ways -/
def Way.txt : Way → Str
  | .up => "up" | .down => "down" | .high => "high" | .low => "low" | .hup => "half up" | .hdown => "half down" | .heven => "half even" | .hodd => "half odd"
def Way.fn : Way → Str
  | .up => "goes_up" | .down => "goes_down" | .high => "goes_high" | .low => "goes_low" | .hup => "goes_half_up" | .hdown => "goes_half_down" | .heven => "goes_half_even" | .hodd => "goes_half_odd"
def sp_goes (K : PySem.W.Frag) (y : Way) : Sp := fun vs H Q _ => ∃ (c : Int) (x : V) (p : Rat), vs = [.int c, x] ∧ NumV (CN K) H x p ∧ Sz 6000 p ∧ Q (.bl (goes y c p)) H
theorem sc_goes_up : FnScope ["count", "part"] ["count", "part"] (defScope s_goes_up) := ⟨rfl, rfl, rfl, by decide +kernel, rfl, by decide +kernel, by decide +kernel⟩
theorem ok_goes_up (T : Tx w K mg) : DefOk P w K mg base "goes_up" 2 [] (sp_goes K .up) := by
  obtain ⟨fd, F⟩ := T.q_goes_up
  refine DefOk.of (ps := ["count", "part"]) F T.g_goes_up (fun _ _ _ _ _ _ us hl => match us, hl with | [_, _], _ => rfl) (FunD.ok0 F sc_goes_up (fun vs H Q E h => ?_) (fun cdv A outer s H vs Q E hr h => ?_))
  · obtain ⟨c, x, p, rfl, _⟩ := h
    rfl
  · obtain ⟨c, x, p, rfl, hp, sp, hQ⟩ := h
    exact ⟨_, (pss_one (ps_ret (pe_cmpR op_ge (pv 0) pe_int (nomark _)))), _, rfl, _, _, rfl, rfl, hQ⟩
theorem sc_goes_down : FnScope ["count", "part"] ["count", "part"] (defScope s_goes_down) := ⟨rfl, rfl, rfl, by decide +kernel, rfl, by decide +kernel, by decide +kernel⟩
theorem ok_goes_down (T : Tx w K mg) : DefOk P w K mg base "goes_down" 2 [] (sp_goes K .down) := by
  obtain ⟨fd, F⟩ := T.q_goes_down
  refine DefOk.of (ps := ["count", "part"]) F T.g_goes_down (fun _ _ _ _ _ _ us hl => match us, hl with | [_, _], _ => rfl) (FunD.ok0 F sc_goes_down (fun vs H Q E h => ?_) (fun cdv A outer s H vs Q E hr h => ?_))
  · obtain ⟨c, x, p, rfl, _⟩ := h
    rfl
  · obtain ⟨c, x, p, rfl, hp, sp, hQ⟩ := h
    exact ⟨_, (pss_one (ps_ret (pe_cmpR op_lt (pv 0) pe_int (nomark _)))), _, rfl, _, _, rfl, rfl, hQ⟩
theorem sc_goes_high : FnScope ["count", "part"] ["count", "part"] (defScope s_goes_high) := ⟨rfl, rfl, rfl, by decide +kernel, rfl, by decide +kernel, by decide +kernel⟩
theorem ok_goes_high (T : Tx w K mg) : DefOk P w K mg base "goes_high" 2 [] (sp_goes K .high) := by
  obtain ⟨fd, F⟩ := T.q_goes_high
  refine DefOk.of (ps := ["count", "part"]) F T.g_goes_high (fun _ _ _ _ _ _ us hl => match us, hl with | [_, _], _ => rfl) (FunD.ok0 F sc_goes_high (fun vs H Q E h => ?_) (fun cdv A outer s H vs Q E hr h => ?_))
  · obtain ⟨c, x, p, rfl, _⟩ := h
    rfl
  · obtain ⟨c, x, p, rfl, hp, sp, hQ⟩ := h
    exact ⟨_, (pss_one (ps_ret pe_bl)), hQ⟩
theorem sc_goes_low : FnScope ["count", "part"] ["count", "part"] (defScope s_goes_low) := ⟨rfl, rfl, rfl, by decide +kernel, rfl, by decide +kernel, by decide +kernel⟩
theorem ok_goes_low (T : Tx w K mg) : DefOk P w K mg base "goes_low" 2 [] (sp_goes K .low) := by
  obtain ⟨fd, F⟩ := T.q_goes_low
  refine DefOk.of (ps := ["count", "part"]) F T.g_goes_low (fun _ _ _ _ _ _ us hl => match us, hl with | [_, _], _ => rfl) (FunD.ok0 F sc_goes_low (fun vs H Q E h => ?_) (fun cdv A outer s H vs Q E hr h => ?_))
  · obtain ⟨c, x, p, rfl, _⟩ := h
    rfl
  · obtain ⟨c, x, p, rfl, hp, sp, hQ⟩ := h
    exact ⟨_, (pss_one (ps_ret pe_bl)), hQ⟩
theorem sc_goes_half_up : FnScope ["count", "part"] ["count", "part"] (defScope s_goes_half_up) := ⟨rfl, rfl, rfl, by decide +kernel, rfl, by decide +kernel, by decide +kernel⟩
theorem ok_goes_half_up (T : Tx w K mg) : DefOk P w K mg base "goes_half_up" 2 [] (sp_goes K .hup) := by
  obtain ⟨fd, F⟩ := T.q_goes_half_up
  refine DefOk.of (ps := ["count", "part"]) F T.g_goes_half_up (fun _ _ _ _ _ _ us hl => match us, hl with | [_, _], _ => rfl) (FunD.ok0 F sc_goes_half_up (fun vs H Q E h => ?_) (fun cdv A outer s H vs Q E hr h => ?_))
  · obtain ⟨c, x, p, rfl, _⟩ := h
    rfl
  · obtain ⟨c, x, p, rfl, hp, sp, hQ⟩ := h
    exact ⟨_, (pss_one (ps_ret (pe_d (ok_by_half T) (hr.mono (by decide)) (pa_cons (pv 1) (pa_cons (pe_cmpR op_ge (pv 0) pe_int (nomark _)) pa_nil))))), _, rfl, _, rfl, _, _, rfl, rfl, x, p, _, rfl, hp, sp, hQ⟩
theorem sc_goes_half_down : FnScope ["count", "part"] ["count", "part"] (defScope s_goes_half_down) := ⟨rfl, rfl, rfl, by decide +kernel, rfl, by decide +kernel, by decide +kernel⟩
theorem ok_goes_half_down (T : Tx w K mg) : DefOk P w K mg base "goes_half_down" 2 [] (sp_goes K .hdown) := by
  obtain ⟨fd, F⟩ := T.q_goes_half_down
  refine DefOk.of (ps := ["count", "part"]) F T.g_goes_half_down (fun _ _ _ _ _ _ us hl => match us, hl with | [_, _], _ => rfl) (FunD.ok0 F sc_goes_half_down (fun vs H Q E h => ?_) (fun cdv A outer s H vs Q E hr h => ?_))
  · obtain ⟨c, x, p, rfl, _⟩ := h
    rfl
  · obtain ⟨c, x, p, rfl, hp, sp, hQ⟩ := h
    exact ⟨_, (pss_one (ps_ret (pe_d (ok_by_half T) (hr.mono (by decide)) (pa_cons (pv 1) (pa_cons (pe_cmpR op_lt (pv 0) pe_int (nomark _)) pa_nil))))), _, rfl, _, rfl, _, _, rfl, rfl, x, p, _, rfl, hp, sp, hQ⟩
theorem dec_int' (i j : Int) : decide (V.int i = V.int j) = decide (i = j) := by
  by_cases c : i = j
  · rw [c, decide_eq_true rfl, decide_eq_true rfl]
  · rw [decide_eq_false c, decide_eq_false fun z => c (by injection z)]
theorem sc_goes_half_even : FnScope ["count", "part"] ["count", "part"] (defScope s_goes_half_even) := ⟨rfl, rfl, rfl, by decide +kernel, rfl, by decide +kernel, by decide +kernel⟩
theorem ok_goes_half_even (T : Tx w K mg) : DefOk P w K mg base "goes_half_even" 2 [] (sp_goes K .heven) := by
  obtain ⟨fd, F⟩ := T.q_goes_half_even
  refine DefOk.of (ps := ["count", "part"]) F T.g_goes_half_even (fun _ _ _ _ _ _ us hl => match us, hl with | [_, _], _ => rfl) (FunD.ok0 F sc_goes_half_even (fun vs H Q E h => ?_) (fun cdv A outer s H vs Q E hr h => ?_))
  · obtain ⟨c, x, p, rfl, _⟩ := h
    rfl
  · obtain ⟨c, x, p, rfl, hp, sp, hQ⟩ := h
    refine ⟨_, (pss_one (ps_ret (pe_d (ok_by_half T) (hr.mono (by decide)) (pa_cons (pv 1) (pa_cons (pe_cmpR op_eq (pe_op op_mod (pv 0) (pe_half T)) pe_int (nomark _)) pa_nil))))), _, rfl, _, rfl, _, _, rfl, rfl, (by show (0 : Int) < 2; decide), rfl, x, p, decide (c % 2 = 1), ?_, hp, sp, hQ⟩
    rw [← dec_int']
    rfl
theorem sc_goes_half_odd : FnScope ["count", "part"] ["count", "part"] (defScope s_goes_half_odd) := ⟨rfl, rfl, rfl, by decide +kernel, rfl, by decide +kernel, by decide +kernel⟩
theorem ok_goes_half_odd (T : Tx w K mg) : DefOk P w K mg base "goes_half_odd" 2 [] (sp_goes K .hodd) := by
  obtain ⟨fd, F⟩ := T.q_goes_half_odd
  refine DefOk.of (ps := ["count", "part"]) F T.g_goes_half_odd (fun _ _ _ _ _ _ us hl => match us, hl with | [_, _], _ => rfl) (FunD.ok0 F sc_goes_half_odd (fun vs H Q E h => ?_) (fun cdv A outer s H vs Q E hr h => ?_))
  · obtain ⟨c, x, p, rfl, _⟩ := h
    rfl
  · obtain ⟨c, x, p, rfl, hp, sp, hQ⟩ := h
    refine ⟨_, (pss_one (ps_ret (pe_d (ok_by_half T) (hr.mono (by decide)) (pa_cons (pv 1) (pa_cons (pe_cmpR op_eq (pe_op op_mod (pv 0) (pe_half T)) pe_int (nomark _)) pa_nil))))), _, rfl, _, rfl, _, _, rfl, rfl, (by show (0 : Int) < 2; decide), rfl, x, p, decide (c % 2 = 0), ?_, hp, sp, hQ⟩
    rw [← dec_int']
    rfl
theorem ok_goes (T : Tx w K mg) (y : Way) : DefOk P w K mg base y.fn 2 [] (sp_goes K y) := by
  cases y
  · exact ok_goes_up T
  · exact ok_goes_down T
  · exact ok_goes_high T
  · exact ok_goes_low T
  · exact ok_goes_half_up T
  · exact ok_goes_half_down T
  · exact ok_goes_half_even T
  · exact ok_goes_half_odd T
theorem rules_at (T : Tx w K mg) (y : Way) : ∃ u, PySem.W.nsIn K (He.ga K "RULES") y.txt = some (some u) ∧ RelV (.ref (He.ga K y.fn)) u := by
  have e := T.ex
  unfold exB at e
  simp only [Bool.and_eq_true] at e
  obtain ⟨⟨⟨⟨⟨⟨⟨⟨h1, _⟩, _⟩, _⟩, _⟩, _⟩, _⟩, _⟩, _⟩ := e
  have key : (y.txt, He.Dv.glo y.fn) ∈ ruleFns := by
    unfold ruleFns
    cases y
    · exact .head _
    · exact .tail _ (.head _)
    · exact .tail _ (.tail _ (.head _))
    · exact .tail _ (.tail _ (.tail _ (.head _)))
    · exact .tail _ (.tail _ (.tail _ (.tail _ (.head _))))
    · exact .tail _ (.tail _ (.tail _ (.tail _ (.tail _ (.head _)))))
    · exact .tail _ (.tail _ (.tail _ (.tail _ (.tail _ (.tail _ (.head _))))))
    · exact .tail _ (.tail _ (.tail _ (.tail _ (.tail _ (.tail _ (.tail _ (.head _)))))))
  exact He.valsB_ok h1 key
theorem rules_K (T : Tx w K mg) (y : Way) : KDct K w (He.ga K "RULES") y.txt (.ref (He.ga K y.fn)) := by
  obtain ⟨es, n, k⟩ := T.says.tab 0 (t := (fun K => He.ga K "RULES", rules)) rfl
  obtain ⟨u, e, r⟩ := rules_at T y
  exact ⟨es, n, u, k.at_, k.lit, e, r⟩
theorem fn_at (T : Tx w K mg) (y : Way) : mg y.fn = some (.ref (He.ga K y.fn)) := by
  cases y
  · exact T.g_goes_up
  · exact T.g_goes_down
  · exact T.g_goes_high
  · exact T.g_goes_low
  · exact T.g_goes_half_up
  · exact T.g_goes_half_down
  · exact T.g_goes_half_even
  · exact T.g_goes_half_odd
end
/-! ### a name that holds a way's def -/
section
variable {X : Cx} {i : Nat} {x : Str} {p pos : Pos} {e : Expr} {es : List Expr} {t : TA}
theorem pe_rules (T : Tx X.w X.K X.mg) (hg : Gl X "RULES" := by rfl) : PE X (.Name "RULES" p) (tC (.ref (He.ga X.K "RULES"))) := pe_glob hg T.g_RULES rfl
theorem pe_callW (T : Tx X.w X.K X.mg) (y : Way) (hr : Room 2 X.A) (i : Nat) (ha : PA X (e :: es) t) (hN : X.N[i]? = some x := by rfl) (hv : Vis X.env.scope x := by exact Or.inl rfl)
    (hdb : (x == ("__debug__" : Str)) = false := by decide) (hcd : (x == ("__classdict__" : Str)) = false := by decide)
    (he : starEach (e :: es) X.env = (false, eval e X.env) :: starEach es X.env := by rfl) (hpl : (backTo pos (starEach es X.env)).any (·.1) = false := by rfl) : PE X (.Call (.Name x p) (e :: es) [] pos) (tCallL i (He.ga X.K y.fn) (sp_goes X.K y) [] E0 t) := by
  refine ⟨fun pins s σ H Q I h => ?_⟩
  obtain ⟨f, fd, ps, ds, a, b, c, d, F⟩ := ok_goes (P := X.prog) (base := X.base) T y
  have e1 := a.symm.trans (fn_at T y)
  cases e1
  cases d
  exact (pe_callL F hr hN hv b c .nil pass0 ha hdb hcd he hpl).run pins s σ H Q I h
end
section
variable {P : Program} {w : World} {K : PySem.W.Frag} {mg : Str → Option Value} {base : Heap}
/-! ### counts_of -/
theorem is_mult {x s : Rat} (hs : 0 < s) : (s * ((x / s).floor : Rat) = x) ↔ isI (x / s) = true := by
  have h : s ≠ 0 := fun e => by rw [e] at hs; exact absurd hs (by decide)
  unfold isI
  rw [decide_eq_true_iff]
  constructor <;> intro e <;> grind
def sp_counts (K : PySem.W.Frag) : Sp := fun vs H Q _ => ∃ (x y : V) (p s : Rat), vs = [x, y] ∧ NumV (CN K) H x p ∧ NumV (CN K) H y s ∧ Sz 1000 p ∧ Sz 1000 s ∧ 0 < s ∧
  ∀ a H', Same H H' → H' a = some (.tup [.int (p / s).floor, .int (hiN (p / s))]) → Q (.ref a) H'
theorem sc_counts_of : FnScope ["number", "step", "low"] ["number", "step"] (defScope s_counts_of) := ⟨rfl, rfl, rfl, by decide +kernel, rfl, by decide +kernel, by decide +kernel⟩
theorem ok_counts_of (T : Tx w K mg) : DefOk P w K mg base "counts_of" 5 [] (sp_counts K) := by
  obtain ⟨fd, F⟩ := T.q_counts_of
  refine DefOk.of (ps := ["number", "step"]) F T.g_counts_of (fun _ _ _ _ _ _ us hl => match us, hl with | [_, _], _ => rfl) (FunD.ok0 F sc_counts_of (fun vs H Q E h => ?_) (fun cdv A outer s H vs Q E hr h => ?_))
  · obtain ⟨x, y, p, s, rfl, _⟩ := h
    rfl
  · obtain ⟨x, y, p, q, rfl, hp, hq, sp, sq, h0, hQ⟩ := h
    refine ⟨_, (pss_cons (ps_set (i := 2) sc_counts_of.nd rfl (Or.inl rfl) (pe_M_floor T (hr.mono (by decide)) (pe_M_over T (hr.mono (by decide)) (pv 0) (pa_cons (pv 1) pa_nil))))
      (pss_one (ps_ret (pe_tup (pa_cons (pv 2) (pa_cons (pe_ifExp (pt_cmpR (op_eqN T (hr.mono (by decide))) (pe_M_times T (hr.mono (by decide)) (pv 1) (pa_cons (pe_N1 T (hr.mono (by decide)) (pa_cons (pv 2) pa_nil)) pa_nil)) (pv 0) (nomark _)) (pv 2) (pe_op op_add (pv 2) pe_int)) pa_nil)))))), ?_⟩
    have sd := sp.div sq h0
    refine ⟨_, rfl, p, hp, _, rfl, _, _, p, q, rfl, hp, hq, sp.mono (by decide), sq.mono (by decide), h0, fun v1 H1 s1 n1 => ⟨_, n1, v1, _, rfl, n1, sd.mono (by decide), ?_⟩⟩
    refine ⟨_, rfl, _, rfl, q, hq.same s1, _, rfl, _, rfl, fun v2 H2 s2 n2 => ⟨_, _, q, _, rfl, (hq.same s1).same s2, n2, sq.mono (by decide), (Sz.int sd.floor (by decide)).mono (by decide), fun v3 H3 s3 n3 => ?_⟩⟩
    have s13 := (s1.trans s2).trans s3
    refine ⟨_, rfl, _, p, n3, hp.same s13, _, rfl, ?_⟩
    by_cases c : isI (p / q) = true
    · rw [decide_eq_true ((is_mult h0).mpr c)]
      refine iteT ⟨_, rfl, by show 2 ≤ sizeLine; decide, fun a na => hQ a _ (Same.updOf s13 na) ?_⟩
      rw [upd_same]
      unfold hiN
      rw [if_pos c]
    · rw [decide_eq_false fun z => c ((is_mult h0).mp z)]
      refine iteF ⟨_, rfl, _, _, rfl, rfl, by show 2 ≤ sizeLine; decide, fun a na => hQ a _ (Same.updOf s13 na) ?_⟩
      rw [upd_same]
      unfold hiN
      rw [if_neg c]
/-! ### count_by -/
def sp_count_by (K : PySem.W.Frag) : Sp := fun vs H Q _ => ∃ (x y : V) (p s : Rat) (z : Way), vs = [x, y, .str z.txt] ∧ NumV (CN K) H x p ∧ NumV (CN K) H y s ∧ Sz 1000 p ∧ Sz 1000 s ∧ 0 < s ∧
  ∀ H', Same H H' → Q (.int (cnt z (p / s))) H'
theorem sc_count_by : FnScope ["number", "step", "way", "low", "high", "part", "rule"] ["number", "step", "way"] (defScope s_count_by) := ⟨rfl, rfl, rfl, by decide +kernel, rfl, by decide +kernel, by decide +kernel⟩
theorem hiN_eq (x : Rat) : decide (V.int x.floor = V.int (hiN x)) = isI x := by
  unfold hiN
  cases c : isI x
  · rw [if_neg (by decide)]
    exact decide_eq_false fun z => by injection z with z; omega
  · rw [if_pos rfl]
    exact decide_eq_true rfl
theorem ok_count_by (T : Tx w K mg) : DefOk P w K mg base "count_by" 6 [] (sp_count_by K) := by
  obtain ⟨fd, F⟩ := T.q_count_by
  refine DefOk.of (ps := ["number", "step", "way"]) F T.g_count_by (fun _ _ _ _ _ _ us hl => match us, hl with | [_, _, _], _ => rfl) (FunD.ok0 F sc_count_by (fun vs H Q E h => ?_) (fun cdv A outer s H vs Q E hr h => ?_))
  · obtain ⟨x, y, p, s, z, rfl, _⟩ := h
    rfl
  · obtain ⟨x, y, p, q, z, rfl, hp, hq, sp, sq, h0, hQ⟩ := h
    refine ⟨_, (pss_cons (ps_asg (pe_d (ok_counts_of T) (hr.mono (by decide)) (pa_cons (pv 0) (pa_cons (pv 1) pa_nil))) (pg_tup (by rfl) (pgs_cons (pg_name (i := 3) sc_count_by.nd rfl (Or.inl rfl)) (pgs_cons (pg_name (i := 4) sc_count_by.nd rfl (Or.inl rfl)) pgs_nil))))
      (pss_cons (ps_if (pt_cmpR op_eq (pv 3) (pv 4) (nomark _)) (pss_one (ps_ret (pv 3))) pss_nil)
      (pss_cons (ps_set (i := 5) sc_count_by.nd rfl (Or.inl rfl) (pe_M_less T (hr.mono (by decide)) (pe_M_over T (hr.mono (by decide)) (pv 0) (pa_cons (pv 1) pa_nil)) (pa_cons (pe_N1 T (hr.mono (by decide)) (pa_cons (pv 3) pa_nil)) pa_nil)))
      (pss_cons (ps_set (i := 6) sc_count_by.nd rfl (Or.inl rfl) (pe_ifExp (pt_val (pe_callB call_isi (by rfl) T.n_isinstance (by decide +kernel) (pa_cons (pv 2) (pa_cons (pe_bltn (v := .ty "str") (by rfl) (T.n_str) (by decide +kernel) rfl) pa_nil)))) (pe_ix ix_kdict (pe_rules T) (pv 2) (fun _ _ => rfl)) (pv 2)))
      (pss_one (ps_ret (pe_ifExp (pt_cmpR op_isBl (pe_callW T z (hr.mono (by decide)) 6 (pa_cons (pv 3) (pa_cons (pv 5) pa_nil))) pe_bl (nomark _)) (pv 4) (pv 3)))))))), ?_⟩
    have sd := sp.div sq h0
    refine ⟨_, rfl, _, rfl, x, y, p, q, rfl, hp, hq, sp, sq, h0, fun a H1 s1 e1 => ⟨a, _, rfl, SqT.of e1, rfl, _, _, rfl, _, _, rfl, rfl, ?_⟩⟩
    refine ⟨_, rfl, _, rfl, rfl, _, rfl, ?_⟩
    rw [hiN_eq]
    cases c : isI (p / q) with
    | true =>
      refine iteT ⟨_, rfl, ?_⟩
      have e : cnt z (p / q) = (p / q).floor := by
        unfold cnt
        rw [if_pos c]
      rw [e] at hQ
      exact hQ H1 s1
    | false =>
      refine iteF ?_
      refine ⟨_, rfl, p, hp.same s1, _, rfl, _, _, p, q, rfl, hp.same s1, hq.same s1, sp.mono (by decide), sq.mono (by decide), h0, fun v2 H2 s2 n2 => ⟨_, n2, _, rfl, _, rfl, fun v3 H3 s3 n3 => ⟨_, _, _, _, rfl, n2.same s3, n3, sd.mono (by decide), (Sz.int sd.floor (by decide)).mono (by decide), fun v4 H4 s4 n4 => ?_⟩⟩⟩
      have s14 := ((s1.trans s2).trans s3).trans s4
      refine ⟨_, rfl, _, _, _, _, _, rfl, .ty _, .base (.str _), kit_ty (a := "str") (b := "str") (r := true) (by decide +kernel), _, rfl, ?_⟩
      refine iteT ?_
      refine ⟨_, rfl, _, _, _, rfl, rfl, rules_K T z, ?_⟩
      have ef : fr (p / q) = p / q - ((p / q).floor : Rat) := rfl
      rw [← ef] at n4
      refine ⟨rfl, _, rfl, _, rfl, _, _, _, rfl, n4, ?_, _, _, rfl, rfl, _, rfl, ?_⟩
      · rw [ef]
        exact (sd.sub (Sz.int sd.floor (by decide))).mono (by decide)
      · have e : cnt z (p / q) = if goes z (p / q).floor (fr (p / q)) = true then (p / q).floor + 1 else (p / q).floor := by
          unfold cnt
          rw [if_neg (by rw [c]; decide)]
        have hh : hiN (p / q) = (p / q).floor + 1 := by
          unfold hiN
          rw [if_neg (by rw [c]; decide)]
        rw [e] at hQ
        cases g : goes z (p / q).floor (fr (p / q)) with
        | true =>
          rw [g, if_pos rfl] at hQ
          refine iteT ⟨_, rfl, ?_⟩
          rw [hh]
          exact hQ H4 s14
        | false =>
          rw [g, if_neg (by decide)] at hQ
          refine iteF ⟨_, rfl, ?_⟩
          exact hQ H4 s14
end
end Fg
set_option Elab.async false
set_option linter.all false
set_option maxRecDepth 100000
set_option maxHeartbeats 4000000
/-! D4: rounded, round_paper, sums of parts. -/
namespace Fg
open PySem PySem.Spec PyProof.Rows L2
theorem Sz.add2 {m n : Nat} {p q : Rat} (h : Sz m p) (h2 : Sz n q) : Sz (m + n + 1) (p + q) := by
  rw [← qadd]
  have a : Bd (m + n) (p.num * q.den) := h.1.mul h2.2
  have b : Bd (m + n) (q.num * p.den) := (h2.1.mul h.2).mono (by omega)
  exact Sz.mk (Int.mul_pos (dpos p) (dpos q)) (a.add b) ((h.2.mul h2.2).mono (by omega))
theorem Sz.mul2 {m n : Nat} {p q : Rat} (h : Sz m p) (h2 : Sz n q) : Sz (m + n) (p * q) := by
  rw [← qmul]
  exact Sz.mk (Int.mul_pos (dpos p) (dpos q)) (h.1.mul h2.1) (h.2.mul h2.2)
theorem Sz.div2 {m n : Nat} {p q : Rat} (h : Sz m p) (h2 : Sz n q) (hq : 0 < q) : Sz (m + n) (p / q) := by
  have hn := num_pos hq
  rw [← qdiv p q (fun e => by rw [e] at hq; exact absurd hq (by decide))]
  exact Sz.mk (Int.mul_pos (dpos p) hn) (h.1.mul h2.2) (h.2.mul h2.1)
theorem Sz.cnt {m : Nat} {z : Way} {x : Rat} (h : Sz m x) (hm : 1 ≤ m) : Bd (m + 1) (cnt z x) := by
  have h1 := h.floor
  have h2 := cnt_ge z x
  have h3 := cnt_le z x
  unfold Bd at *
  rw [Nat.pow_succ]
  have : 1 < 2 ^ m := Nat.one_lt_two_pow (by omega)
  omega
section
variable {P : Program} {w : World} {K : PySem.W.Frag} {mg : Str → Option Value} {base : Heap}
/-! ### rounded -/
def sp_rounded (K : PySem.W.Frag) : Sp := fun vs H Q _ => ∃ (x y : V) (p s : Rat) (z : Way), vs = [x, y, .str z.txt] ∧ NumV (CN K) H x p ∧ NumV (CN K) H y s ∧ Sz 1000 p ∧ Sz 1000 s ∧ 0 < s ∧
  ∀ v H', Same H H' → NumV (CN K) H' v (s * (cnt z (p / s) : Rat)) → Q v H'
theorem sc_rounded : FnScope ["number", "step", "way"] ["number", "step", "way"] (defScope s_rounded) := ⟨rfl, rfl, rfl, by decide +kernel, rfl, by decide +kernel, by decide +kernel⟩
theorem ok_rounded (T : Tx w K mg) : DefOk P w K mg base "rounded" 7 [.str "half even"] (sp_rounded K) := by
  obtain ⟨fd, F⟩ := T.q_rounded
  obtain ⟨ds, hv, hb⟩ := FunD.binds0 (ps := ["number", "step", "way"]) F 2 (by simp) rfl (fun _ _ _ _ _ _ us ks hl hk => match us, hl, ks, hk with | [_, _], _, [_], _ => ⟨_, _, _, _, _, _, rfl, rfl, rfl⟩)
  refine ⟨_, fd, _, ds, T.g_rounded, F.kp, hb, hv, FunD.ok0 F sc_rounded (fun vs H Q E h => ?_) (fun cdv A outer s H vs Q E hr h => ?_)⟩
  · obtain ⟨x, y, p, s, z, rfl, _⟩ := h
    rfl
  · obtain ⟨x, y, p, q, z, rfl, hp, hq, sp, sq, h0, hQ⟩ := h
    refine ⟨_, (pss_one (ps_ret (pe_M_times T (hr.mono (by decide)) (pv 1) (pa_cons (pe_N1 T (hr.mono (by decide)) (pa_cons (pe_d (ok_count_by T) (hr.mono (by decide)) (pa_cons (pv 0) (pa_cons (pv 1) (pa_cons (pv 2) pa_nil)))) pa_nil)) pa_nil)))), ?_⟩
    have sd := sp.div sq h0
    refine ⟨_, rfl, q, hq, _, rfl, _, rfl, _, rfl, x, y, p, q, z, rfl, hp, hq, sp, sq, h0, fun H1 s1 => ⟨_, rfl, fun v2 H2 s2 n2 => ⟨_, _, q, _, rfl, (hq.same s1).same s2, n2, sq.mono (by decide), (Sz.int (sd.cnt (by decide)) (by decide)).mono (by decide), fun v3 H3 s3 n3 => ?_⟩⟩⟩
    exact hQ v3 H3 ((s1.trans s2).trans s3) n3
/-! ### round_paper -/
def sp_round_paper (K : PySem.W.Frag) : Sp := fun vs H Q _ => ∃ (x y : V) (p s : Rat) (z : Way), vs = [x, y, .str z.txt] ∧ NumV (CN K) H x p ∧ NumV (CN K) H y s ∧ Sz 1000 p ∧ Sz 1000 s ∧ 0 < s ∧
  ∀ a H', Same H H' → H' a = some (.tup [.int (p / s).floor, .int (hiN (p / s)), .int (cnt z (p / s))]) → Q (.ref a) H'
theorem sc_round_paper : FnScope ["number", "step", "way", "low", "high"] ["number", "step", "way"] (defScope s_round_paper) := ⟨rfl, rfl, rfl, by decide +kernel, rfl, by decide +kernel, by decide +kernel⟩
theorem fn_round_paper (T : Tx w K mg) : ∃ fd, mg "round_paper" = some (.ref (He.ga K "round_paper")) ∧ PySem.W.keepIn K (.ref (He.ga K "round_paper")) = true ∧ KBn K fd ["number", "step", "way"] 2 ["way"] (fun us ws => us ++ ws) (fun vs zs => vs ++ zs) ∧
    FnOk P w K mg base CX0 7 (He.ga K "round_paper") fd ["number", "step", "way"] (sp_round_paper K) := by
  obtain ⟨fd, F⟩ := T.q_round_paper
  refine ⟨fd, T.g_round_paper, F.kp, ⟨fun s us ws X l1 l2 => ?_, fun r1 r2 => r1.append r2⟩, FunD.ok0 F sc_round_paper (fun vs H Q E h => ?_) (fun cdv A outer s H vs Q E hr h => ?_)⟩
  · obtain ⟨oc, od, dV, kV, doc, pm, an, cdv, ct, osl, rfl, lk, hcd, hD, hK⟩ := F.ex
    rcases hD with ⟨_, rfl⟩ | ⟨e, _⟩
    · rcases hK with e | ⟨D, rfl, hq⟩
      · cases e
      · exact .of_eq (match us, l1, ws, l2 with | [_, _], _, [_], _ => rfl)
    · exact absurd rfl e
  · obtain ⟨x, y, p, s, z, rfl, _⟩ := h
    rfl
  · obtain ⟨x, y, p, q, z, rfl, hp, hq, sp, sq, h0, hQ⟩ := h
    refine ⟨_, (pss_cons (ps_asg (pe_d (ok_counts_of T) (hr.mono (by decide)) (pa_cons (pv 0) (pa_cons (pv 1) pa_nil))) (pg_tup (by rfl) (pgs_cons (pg_name (i := 3) sc_round_paper.nd rfl (Or.inl rfl)) (pgs_cons (pg_name (i := 4) sc_round_paper.nd rfl (Or.inl rfl)) pgs_nil))))
      (pss_one (ps_ret (pe_tup (pa_cons (pv 3) (pa_cons (pv 4) (pa_cons (pe_d (ok_count_by T) (hr.mono (by decide)) (pa_cons (pv 0) (pa_cons (pv 1) (pa_cons (pv 2) pa_nil)))) pa_nil))))))), ?_⟩
    refine ⟨_, rfl, _, rfl, x, y, p, q, rfl, hp, hq, sp, sq, h0, fun a H1 s1 e1 => ⟨a, _, rfl, SqT.of e1, rfl, _, _, rfl, _, _, rfl, rfl, ?_⟩⟩
    refine ⟨_, rfl, _, rfl, _, rfl, _, rfl, _, rfl, x, y, p, q, z, rfl, hp.same s1, hq.same s1, sp, sq, h0, fun H2 s2 => ⟨by show 3 ≤ sizeLine; decide, fun b nb => ?_⟩⟩
    exact hQ b _ (Same.updOf (s1.trans s2) nb) upd_same
/-! ### lists of Numbers -/
def NumL (C : Addr) (H : Hp) (vs : List V) (qs : List Rat) : Prop := vs.length = qs.length ∧ ∀ (i : Nat) (v : V) (q : Rat), vs[i]? = some v → qs[i]? = some q → NumV C H v q
theorem NumL.same {C : Addr} {H H' : Hp} {vs : List V} {qs : List Rat} (h : NumL C H vs qs) (s : Same H H') : NumL C H' vs qs := ⟨h.1, fun i v q a b => (h.2 i v q a b).same s⟩
theorem NumL.keep {C : Addr} {M : Addr → Prop} {H H' : Hp} {vs : List V} {qs : List Rat} (h : NumL C H vs qs) (k : Keep M H H') (l : Lsts M H) : NumL C H' vs qs := ⟨h.1, fun i v q a b => (h.2 i v q a b).keep k l⟩
/-- a tuple of Numbers -/
def TupN (C : Addr) (H : Hp) (v : V) (qs : List Rat) : Prop := ∃ a vs, v = .ref a ∧ H a = some (.tup vs) ∧ NumL C H vs qs
theorem TupN.same {C : Addr} {H H' : Hp} {v : V} {qs : List Rat} (h : TupN C H v qs) (s : Same H H') : TupN C H' v qs := by
  obtain ⟨a, vs, e, ea, n⟩ := h
  exact ⟨a, vs, e, s _ _ ea, n.same s⟩
/-- the parts are small and few -/
structure Parts (qs : List Rat) : Prop where
  few : qs.length ≤ 20
  small : ∀ q ∈ qs, Sz 40 q
theorem sz_zero : Sz 1 (0 : Rat) := ⟨by unfold Bd; decide, by unfold Bd; decide⟩
theorem sz_sum : ∀ (qs : List Rat), (∀ q ∈ qs, Sz 40 q) → Sz (41 * qs.length + 1) (sumQ qs)
  | [], _ => sz_zero
  | q :: r, h => by
    have a := sz_sum r fun x hx => h x (List.mem_cons_of_mem _ hx)
    have b := h q List.mem_cons_self
    have c := b.add2 a
    simp only [sumQ, List.length_cons]
    exact c.mono (by omega)
theorem Parts.sum {qs : List Rat} (p : Parts qs) (i : Nat) : Sz 900 (sumQ (qs.take i)) := by
  have := p.few
  refine (sz_sum (qs.take i) fun q hq => p.small q (List.mem_of_mem_take hq)).mono ?_
  rw [List.length_take]
  omega
/-! ### sum_of -/
def sp_sum_of (K : PySem.W.Frag) : Sp := fun vs H Q _ => ∃ (x : V) (qs : List Rat), vs = [x] ∧ TupN (CN K) H x qs ∧ Parts qs ∧ ∀ v H', Same H H' → NumV (CN K) H' v (sumQ qs) → Q v H'
theorem sc_sum_of : FnScope ["parts", "found", "part"] ["parts"] (defScope s_sum_of) := ⟨rfl, rfl, rfl, by decide +kernel, rfl, by decide +kernel, by decide +kernel⟩
theorem ok_sum_of (T : Tx w K mg) : DefOk P w K mg base "sum_of" 5 [] (sp_sum_of K) := by
  obtain ⟨fd, F⟩ := T.q_sum_of
  refine DefOk.of (ps := ["parts"]) F T.g_sum_of (fun _ _ _ _ _ _ us hl => match us, hl with | [_], _ => rfl) (FunD.ok0 F sc_sum_of (fun vs H Q E h => ?_) (fun cdv A outer s H vs Q E hr h => ?_))
  · obtain ⟨x, qs, rfl, _⟩ := h
    rfl
  · obtain ⟨x, qs, rfl, ⟨a, vs, rfl, ha, hn⟩, hs, hQ⟩ := h
    refine ⟨_, (pss_cons (ps_set (i := 1) sc_sum_of.nd rfl (Or.inl rfl) (pe_N1 T (hr.mono (by decide)) (pa_cons pe_int pa_nil)))
      (pss_cons (ps_for PassesOwn.never rfl (pi_tup (pv 0)) (pg_name (i := 2) sc_sum_of.nd rfl (Or.inl rfl)) (pss_one (ps_set (i := 1) sc_sum_of.nd rfl (Or.inl rfl) (pe_M_more T (hr.mono (by decide)) (pv 1) (pa_cons (pv 2) pa_nil)))))
      (pss_one (ps_ret (pv 1))))), ?_⟩
    refine ⟨_, rfl, fun v1 H1 s1 n1 => ?_⟩
    refine ⟨_, rfl, a, rfl, ⟨_, SqT.of (s1 _ _ ha)⟩, for_tup (K := K) (a := a) (xs := vs) (fun i σ H' => ∃ (y : V) (z : Option V), σ = [some (.ref a), some y, z] ∧ Same H H' ∧ NumV (CN K) H' y (sumQ (qs.take i)))
      ⟨v1, none, rfl, s1, n1⟩ (fun i σ H' _ ⟨_, _, _, s2, _⟩ => SqT.of (s2 _ _ ha)) ?_ ?_⟩
    · rintro i x σ H' hi ⟨y, z, rfl, s2, ny⟩
      obtain ⟨q, hq⟩ : ∃ q, qs[i]? = some q := by
        have : i < qs.length := by
          have := (List.getElem?_eq_some_iff.mp hi).1
          rw [hn.1] at this
          exact this
        exact ⟨_, List.getElem?_eq_getElem this⟩
      have nx := (hn.2 i x q hi hq).same s2
      refine ⟨_, rfl, _, ny, _, rfl, _, _, _, q, rfl, ny, nx, (hs.sum i).mono (by decide), (hs.small q (List.mem_of_getElem? hq)).mono (by decide), fun v2 H2 s3 n2 => ?_⟩
      exact ⟨v2, some x, rfl, s2.trans s3, by rw [sumQ_take hq]; exact n2⟩
    · rintro σ H' ⟨y, z, rfl, s2, ny⟩
      refine ⟨_, rfl, hQ y H' s2 ?_⟩
      rw [hn.1, List.take_length] at ny
      exact ny
/-! ### steps_of -/
def sp_steps_of (K : PySem.W.Frag) : Sp := fun vs H Q _ => ∃ (x y : V) (qs : List Rat) (s : Rat), vs = [x, y] ∧ TupN (CN K) H x qs ∧ Parts qs ∧ NumV (CN K) H y s ∧ Sz 100 s ∧ 0 < s ∧ ∀ H', Same H H' → Q (.int (cnt .heven (sumQ qs / s))) H'
theorem sc_steps_of : FnScope ["parts", "step"] ["parts", "step"] (defScope s_steps_of) := ⟨rfl, rfl, rfl, by decide +kernel, rfl, by decide +kernel, by decide +kernel⟩
theorem ok_steps_of (T : Tx w K mg) : DefOk P w K mg base "steps_of" 8 [] (sp_steps_of K) := by
  obtain ⟨fd, F⟩ := T.q_steps_of
  refine DefOk.of (ps := ["parts", "step"]) F T.g_steps_of (fun _ _ _ _ _ _ us hl => match us, hl with | [_, _], _ => rfl) (FunD.ok0 F sc_steps_of (fun vs H Q E h => ?_) (fun cdv A outer s H vs Q E hr h => ?_))
  · obtain ⟨x, y, qs, s, rfl, _⟩ := h
    rfl
  · obtain ⟨x, y, qs, q, rfl, hx, hs, hq, sq, h0, hQ⟩ := h
    refine ⟨_, (pss_one (ps_ret (pe_M_floor T (hr.mono (by decide)) (pe_M_over T (hr.mono (by decide)) (pe_d (ok_rounded T) (hr.mono (by decide)) (pa_cons (pe_d (ok_sum_of T) (hr.mono (by decide)) (pa_cons (pv 0) pa_nil)) (pa_cons (pv 1) pa_nil))) (pa_cons (pv 1) pa_nil))))), ?_⟩
    have ss : Sz 900 (sumQ qs) := by
      have := hs.sum qs.length
      rw [List.take_length] at this
      exact this
    have sd := ss.div2 sq h0
    have sr : Sz 1200 (q * (cnt .heven (sumQ qs / q) : Rat)) := (sq.mul2 (Sz.int (sd.cnt (z := .heven) (by decide)) (by decide))).mono (by decide)
    have e0 : q ≠ 0 := fun e => by rw [e] at h0; exact absurd h0 (by decide)
    refine ⟨_, rfl, x, qs, rfl, hx, hs, fun v1 H1 s1 n1 => ⟨_, rfl, _, _, _, q, .heven, rfl, n1, hq.same s1, ss.mono (by decide), sq.mono (by decide), h0, fun v2 H2 s2 n2 => ⟨_, n2, _, rfl, _, _, _, q, rfl, n2, (hq.same s1).same s2, sr.mono (by decide), sq.mono (by decide), h0, fun v3 H3 s3 n3 => ?_⟩⟩⟩
    refine ⟨_, n3, _, _, rfl, n3, (sr.div2 sq h0).mono (by decide), ?_⟩
    have e : (q * (cnt .heven (sumQ qs / q) : Rat)) / q = (cnt .heven (sumQ qs / q) : Rat) := by grind
    rw [e, fl_int]
    exact hQ H3 ((s1.trans s2).trans s3)
/-! ### beyond_of -/
/-- the rows of the ratios xs -/
def Rows (C : Addr) (H : Hp) (rs : List V) (xs : List Rat) : Prop := rs.length = xs.length ∧ ∀ (i : Nat) (r : V) (x : Rat), rs[i]? = some r → xs[i]? = some x → ∃ t y, r = .ref t ∧ H t = some (.tup [.int x.floor, y]) ∧ NumV C H y (fr x)
theorem Rows.keep {C : Addr} {M : Addr → Prop} {H H' : Hp} {rs : List V} {xs : List Rat} (h : Rows C H rs xs) (k : Keep M H H') (l : Lsts M H) : Rows C H' rs xs := ⟨h.1, fun i r x a b => by
  obtain ⟨t, y, e, et, n⟩ := h.2 i r x a b
  exact ⟨t, y, e, k.get l et (fun xs z => by cases z), n.keep k l⟩⟩
theorem Rows.same {C : Addr} {H H' : Hp} {rs : List V} {xs : List Rat} (h : Rows C H rs xs) (s : Same H H') : Rows C H' rs xs := h.keep (M := fun _ => False) (Keep.ofSame s) (fun a z => z.elim)
theorem Rows.snoc {C : Addr} {H : Hp} {rs : List V} {xs : List Rat} {t : Addr} {y : V} {x : Rat} (h : Rows C H rs xs) (e : H t = some (.tup [.int x.floor, y])) (n : NumV C H y (fr x)) : Rows C H (rs ++ [.ref t]) (xs ++ [x]) := by
  refine ⟨by simp [h.1], fun i r z a b => ?_⟩
  by_cases hi : i < rs.length
  · rw [List.getElem?_append_left hi] at a
    rw [List.getElem?_append_left (by rw [← h.1]; exact hi)] at b
    exact h.2 i r z a b
  · have e1 : i = rs.length := by
      have := (List.getElem?_eq_some_iff.mp a).1
      rw [List.length_append] at this
      simp at this
      omega
    subst e1
    rw [List.getElem?_append_right (by omega)] at a
    rw [List.getElem?_append_right (by rw [h.1]; omega)] at b
    simp at a
    rw [h.1] at b
    simp at b
    subst a b
    exact ⟨t, y, rfl, e, n⟩
def sp_beyond_of (K : PySem.W.Frag) : Sp := fun vs H Q _ => ∃ (x y : V) (qs : List Rat) (s : Rat), vs = [x, y] ∧ TupN (CN K) H x qs ∧ Parts qs ∧ NumV (CN K) H y s ∧ Sz 100 s ∧ 0 < s ∧
  ∀ L rs H', H L = none → Same H H' → H' L = some (.lst rs) → Rows (CN K) H' rs (qs.map (· / s)) → Q (.ref L) H'
theorem sc_beyond_of : FnScope ["parts", "step", "found", "part", "count"] ["parts", "step"] (defScope s_beyond_of) := ⟨rfl, rfl, rfl, by decide +kernel, rfl, by decide +kernel, by decide +kernel⟩
theorem ok_beyond_of (T : Tx w K mg) : DefOk P w K mg base "beyond_of" 5 [] (sp_beyond_of K) := by
  obtain ⟨fd, F⟩ := T.q_beyond_of
  refine DefOk.of (ps := ["parts", "step"]) F T.g_beyond_of (fun _ _ _ _ _ _ us hl => match us, hl with | [_, _], _ => rfl) (FunD.ok0 F sc_beyond_of (fun vs H Q E h => ?_) (fun cdv A outer s H vs Q E hr h => ?_))
  · obtain ⟨x, y, qs, s, rfl, _⟩ := h
    rfl
  · obtain ⟨x, y, qs, q, rfl, ⟨a, vs, rfl, ha, hn⟩, hs, hq, sq, h0, hQ⟩ := h
    refine ⟨_, (pss_cons (ps_set (i := 2) sc_beyond_of.nd rfl (Or.inl rfl) (pe_lst pa_nil))
      (pss_cons (ps_for PassesOwn.never rfl (pi_tup (pv 0)) (pg_name (i := 3) sc_beyond_of.nd rfl (Or.inl rfl)) (pss_cons (ps_set (i := 4) sc_beyond_of.nd rfl (Or.inl rfl) (pe_M_floor T (hr.mono (by decide)) (pe_M_over T (hr.mono (by decide)) (pv 3) (pa_cons (pv 1) pa_nil))))
      (pss_one (ps_expr (pe_bm PySem.F.plainAttrs_list PySem.F.slot_list_append PySem.F.type_list_append mt_append (pv 2) (pa_cons (pe_tup (pa_cons (pv 4) (pa_cons (pe_M_less T (hr.mono (by decide)) (pe_M_over T (hr.mono (by decide)) (pv 3) (pa_cons (pv 1) pa_nil)) (pa_cons (pe_N1 T (hr.mono (by decide)) (pa_cons (pv 4) pa_nil)) pa_nil)) pa_nil))) pa_nil))))))
      (pss_one (ps_ret (pv 2))))), ?_⟩
    refine ⟨by show 0 ≤ sizeLine; decide, fun L nL => ?_⟩
    refine ⟨_, rfl, a, rfl, ⟨_, SqT.of (Same.upd nL _ _ ha)⟩, for_tup (K := K) (a := a) (xs := vs) (fun i σ H' => ∃ (z z2 : Option V) (rs : List V), σ = [some (.ref a), some y, some (.ref L), z, z2] ∧ Same H H' ∧ H' L = some (.lst rs) ∧ Rows (CN K) H' rs ((qs.take i).map (· / q)))
      ⟨none, none, [], rfl, Same.upd nL, upd_same, rfl, fun i r x h => by simp at h⟩ (fun i σ H' _ ⟨_, _, _, _, s2, _⟩ => SqT.of (s2 _ _ ha)) ?_ ?_⟩
    · rintro i x σ H' hi ⟨z, z2, rs, rfl, s2, hL, hR⟩
      have hlt : i < qs.length := by
        have := (List.getElem?_eq_some_iff.mp hi).1
        rw [hn.1] at this
        exact this
      obtain ⟨p, hp⟩ : ∃ p, qs[i]? = some p := ⟨_, List.getElem?_eq_getElem hlt⟩
      have nx := (hn.2 i x p hi hp).same s2
      have sp := hs.small p (List.mem_of_getElem? hp)
      have sd := sp.div2 sq h0
      refine ⟨_, rfl, _, nx, _, rfl, _, _, p, q, rfl, nx, hq.same s2, sp.mono (by decide), sq.mono (by decide), h0, fun v1 H1 s3 n1 => ⟨_, n1, _, _, rfl, n1, sd.mono (by decide), ?_⟩⟩
      refine ⟨_, rfl, .inl ⟨rfl, _, SqL.of (s3 _ _ hL)⟩, ?_⟩
      refine ⟨_, rfl, _, rfl, _, nx.same s3, _, rfl, _, _, p, q, rfl, nx.same s3, (hq.same s2).same s3, sp.mono (by decide), sq.mono (by decide), h0, fun v2 H2 s4 n2 => ⟨_, n2, _, rfl, _, rfl, fun v3 H3 s5 n3 => ⟨_, _, _, _, rfl, n2.same s5, n3, sd.mono (by decide), (Sz.int sd.floor (by decide)).mono (by decide), fun v4 H4 s6 n4 => ?_⟩⟩⟩
      refine ⟨by show 2 ≤ sizeLine; decide, fun t nt => ?_⟩
      have s36 := ((s3.trans s4).trans s5).trans s6
      have s7 : Same H' (upd H4 t (.tup [.int (p / q).floor, v4])) := Same.updOf s36 nt
      have hlen : rs.length ≤ 20 := by
        rw [hR.1, List.length_map, List.length_take]
        have := hs.few
        omega
      refine ⟨L, _, _, rfl, rfl, s7 _ _ hL, by rw [sizeLine_eq]; omega, ?_⟩
      have tL : t ≠ L := fun e => by
        rw [e, s36 _ _ hL] at nt
        cases nt
      have hM : Lsts (fun b => b = L) (upd H4 t (.tup [.int (p / q).floor, v4])) := fun b hb => ⟨rs, by rw [hb]; exact s7 _ _ hL⟩
      have hK : Keep (fun b => b = L) (upd H4 t (.tup [.int (p / q).floor, v4])) (upd (upd H4 t (.tup [.int (p / q).floor, v4])) L (.lst (rs ++ [.ref t]))) := fun b o e nb => by
        rw [upd_ne nb]
        exact e
      refine ⟨_, _, rs ++ [.ref t], rfl, fun b o e => ?_, upd_same, ?_⟩
      · rw [upd_ne (ne_of_none e nL)]
        exact s7 _ _ (s2 _ _ e)
      · have e : (qs.take (i + 1)).map (· / q) = (qs.take i).map (· / q) ++ [p / q] := by
          rw [List.take_add_one, hp]
          simp
        rw [e]
        have n5 := (n4.same (Same.upd (o := .tup [.int (p / q).floor, v4]) nt))
        exact Rows.keep (Rows.snoc (hR.same s7) upd_same n5) hK hM
    · rintro σ H' ⟨z, z2, rs, rfl, s2, hL, hR⟩
      refine ⟨_, rfl, hQ L rs H' nL s2 hL ?_⟩
      rw [hn.1, List.take_length] at hR
      exact hR
end
end Fg
set_option Elab.async false
set_option linter.all false
set_option maxRecDepth 100000
set_option maxHeartbeats 4000000
/-! B3: first, *others = a list. -/
namespace PySem.W
open PySem PySem.Spec PySem.Calls PyProof.Rows
section
variable {prog : Program} {w : World} {A : Around} {E : Value → Shared → Prop} {s : Shared}
theorem fg_star {l : Addr} {items : Array Value} {x : Value} {r : List Value} {Q : List Value → Shared → Prop} (hl : s.heap.IsList l items) (hh : A.handled = none) (e : items.toList = x :: r) (hz : items.size ≤ 16384)
    (h : ∀ (h₂ : Heap) (tk : Nat), (∀ b o, s.heap.get? b = some o → h₂.get? b = some o) →
      wpAny (model prog w) A (newList r) (fun d s' => Q [x, d] s') E { s with heap := h₂, toks := tk }) : wpAny (model prog w) A (unpackItems (.ref l) 2 (some 1)) Q E s := by
  have hsz : items.size = r.length + 1 := by
    rw [← Array.length_toList, e]
    rfl
  have hlt : l ≠ s.heap.objs.size := by obtain ⟨o, ho, _⟩ := hl; exact Nat.ne_of_lt (Heap.lt_size ho)
  unfold unpackItems
  refine wpAny_bind ?_
  unfold notIterableAtAll
  refine wpAny_bind (wpAny_specialOf hl.typeIs slot_list_iter.lookup ?_)
  refine wpAny_pure ?_
  simp only [Bool.false_eq_true, if_false]
  refine wpAny_bind (wpAny_holding (wpAny_pyIter_list hl ?_))
  refine wpAny_bind (wpAny_holding (kun_draw hlt 1 0 _ _ ⟨_, Heap.get?_push_size _ rfl, rfl, rfl⟩ (hl.push _) (by omega) fun h₁ hit₁ hs₁ => ?_))
  have hl₁ : h₁.IsList l items := (hl.push _).extBut hs₁.extBut hlt
  rw [Nat.zero_add] at hit₁
  obtain ⟨oi, hoi, _⟩ := id hit₁
  obtain ⟨ol, hol, _⟩ := id hl₁
  rw [List.drop_zero, e]
  show wpAny _ _ (if [x].length < 1 then _ else _) _ _ _
  rw [if_neg (by simp)]
  refine wpAny_bind (wpAny_holding (kun_collect (s := { s with heap := h₁ }) (T := "list_iterator") (.inr (.inr (.inl rfl))) (Walks.list (A := A.in1) hh s.heap.objs.size l hlt items) (fun j u st => st.1.typeIs) (k := 1) (by omega) ⟨hit₁, hl₁⟩ (Heap.lt_size hoi) (Heap.lt_size hol) (fun h₂ tk hk => ?_) (by rw [sizeLine_eq]; omega)))
  have hd : items.toList.drop 1 = r := by rw [e]; rfl
  rw [hd]
  show wpAny _ _ (if r.length < 0 then _ else _) _ _ _
  rw [if_neg (by omega)]
  show wpAny _ _ (newList (r.take (r.length - 0)) >>= fun d => pure ([x] ++ [d] ++ r.drop (r.length - 0))) _ _ _
  rw [Nat.sub_zero, List.take_length, List.drop_length]
  have he : ∀ b o, s.heap.get? b = some o → h₂.get? b = some o := fun b o e => hk b o (Nat.ne_of_lt (Heap.lt_size e)) (hs₁.extBut b o (Nat.ne_of_lt (Heap.lt_size e)) (Heap.get?_push_of_some _ e))
  refine wpAny_bind (wpAny_mono (h h₂ tk he) (fun d s' q => wpAny_pure ?_) fun _ _ z => z)
  exact q
end
end PySem.W
namespace Fg
open PySem PySem.Spec PyProof.Rows L2
/-- a, *b = a list of one item at least -/
def gStar (K : PySem.W.Frag) (ta tb : TG) : TG := fun v σ H Q => ∃ L x r, v = .ref L ∧ SqL K H L (x :: r) ∧ r.length ≤ 1000 ∧ ∀ p, H p = none → ta x σ (upd H p (.lst r)) fun σ1 H1 => tb (.ref p) σ1 H1 Q
section
variable {X : Cx} {a b : Expr} {ta tb : TG} {p pos : Pos} {k : Nat}
theorem pg_star (hc : X.calm = true) (h1 : PG X a ta) (h2 : PG X b tb) (hn : (assignEach [a, .Starred b p] X.env).length = 2 := by rfl) (hst : (assignEach [a, .Starred b p] X.env).findIdx? (·.1) = some 1 := by rfl)
    (ha : (assignEach [a, .Starred b p] X.env).map (·.2) = [assign a X.env, assign b X.env] := by rfl) : PG X (.Tuple [a, .Starred b p] k pos) (gStar X.K ta tb) := by
  refine ⟨fun pins s σ H v u Q I r hw => ?_⟩
  obtain ⟨L, x, xs, e1, hq, hl, hw⟩ := hw
  subst e1
  cases r
  obtain ⟨its, rv, pl, hz⟩ := I.list hq
  cases rv with
  | @cons x' u xs' us rx rr =>
    rw [PyProof.Rows.assign_Tuple]
    refine wpAny_bind (wpAny_standAt ?_)
    unfold unpack
    rw [hn, hst, ha]
    have hlen : us.length = xs.length := rr.length.symm
    refine wpAny_bind (wpAny_holding (PySem.W.fg_star (x := u) (r := us) pl.isList (I.ok.hd hc) (by simp) (by simp; omega) fun h₂ tk hk => ?_))
    have I1 : Inv X pins σ H { s with heap := h₂, toks := tk } := I.kept hk
    refine wpAny_newList ?_ (by rw [sizeLine_eq]; omega)
    have nD : H h₂.objs.size = none := I1.hok.fresh (Nat.le_refl _)
    have I2 : Inv X pins σ (upd H h₂.objs.size (.lst xs)) { s with heap := h₂.push { cls := .type "list", data := .seq us.toArray }, toks := tk } :=
      I1.laid (t' := tk) (fun b u e => Heap.get?_push_of_some _ e) (Nat.le_refl _) (show ObjOk X.prog X.w _ _ _ (.lst xs) from ⟨by rw [sizeLine_eq]; omega, us, 0, rr, Heap.get?_push_size _ rfl⟩)
    refine assignInOrder_cons (thn (h1.run pins _ σ _ _ _ _ I2 rx (hw _ nD)) fun _ s1 ⟨σ1, H1, I3, q1⟩ => ?_)
    refine assignInOrder_cons (thn (h2.run pins s1 σ1 H1 (.ref h₂.objs.size) _ _ I3 rfl q1) fun _ s2 ⟨σ2, H2, I4, q2⟩ => ?_)
    exact assignInOrder_nil ⟨σ2, H2, I4, q2⟩
end
end Fg
set_option Elab.async false
set_option linter.all false
set_option maxRecDepth 100000
set_option maxHeartbeats 4000000
/-! D5: parts_rounded. -/
namespace Fg
open PySem PySem.Spec PyProof.Rows L2
def natsV (is : List Nat) : List V := is.map fun (i : Nat) => V.int (i : Int)
theorem natsV_get {is : List Nat} {i : Nat} {v : V} (h : (natsV is)[i]? = some v) : ∃ k, is[i]? = some k ∧ v = .int (k : Int) := by
  unfold natsV at h
  rw [List.getElem?_map] at h
  cases e : is[i]? with
  | none => rw [e] at h; cases h
  | some k => rw [e] at h; exact ⟨k, rfl, (Option.some.inj h).symm⟩
theorem map_eraseIdx {α β : Type} (f : α → β) : ∀ (l : List α) (j : Nat), (l.map f).eraseIdx j = (l.eraseIdx j).map f
  | [], j => by simp
  | a :: r, 0 => by simp
  | a :: r, j + 1 => by
    have ih := map_eraseIdx f r j
    simp [ih]
/-- a row, its part -/
theorem Rows.at {C : Addr} {H : Hp} {rs : List V} {xs : List Rat} (h : Rows C H rs xs) {i : Nat} (hi : i < xs.length) : ∃ t y, rs[i]? = some (.ref t) ∧ H t = some (.tup [.int (xat xs i).floor, y]) ∧ NumV C H y (fr (xat xs i)) := by
  have h1 : i < rs.length := by rw [h.1]; exact hi
  obtain ⟨t, y, e, et, n⟩ := h.2 i _ _ (List.getElem?_eq_getElem h1) (List.getElem?_eq_getElem hi)
  rw [xat_eq (List.getElem?_eq_getElem hi)]
  exact ⟨t, y, by rw [List.getElem?_eq_getElem h1, e], et, n⟩
theorem sz_fr {m : Nat} {x : Rat} (h : Sz m x) (hm : 1 ≤ m) : Sz (m + m + 1) (fr x) := h.sub (Sz.int h.floor hm)
theorem sz_xat {xs : List Rat} (h : ∀ x ∈ xs, Sz 140 x) (i : Nat) : Sz 300 (fr (xat xs i)) := by
  by_cases hi : i < xs.length
  · rw [xat_eq (List.getElem?_eq_getElem hi)]
    exact (sz_fr (h _ (List.getElem_mem hi)) (by decide)).mono (by decide)
  · have e : xat xs i = 0 := by
      unfold xat
      rw [List.getD_eq_getElem?_getD, List.getElem?_eq_none (by omega)]
      rfl
    rw [e]
    exact (sz_fr sz_zero (by decide)).mono (by decide)
section
variable {P : Program} {w : World} {K : PySem.W.Frag} {mg : Str → Option Value} {base : Heap}
/-! ### first_greatest -/
def sp_first_greatest (K : PySem.W.Frag) : Sp := fun vs H Q _ => ∃ (R L : Addr) (rs : List V) (xs : List Rat) (is : List Nat), vs = [.ref R, .ref L] ∧ H R = some (.lst rs) ∧ Rows (CN K) H rs xs ∧ (∀ x ∈ xs, Sz 140 x) ∧ H L = some (.lst (natsV is)) ∧ is ≠ [] ∧ is.length ≤ 20 ∧ (∀ i ∈ is, i < xs.length) ∧
  ∀ (b : Nat) H', b ∈ is → (∀ i ∈ is, fr (xat xs i) ≤ fr (xat xs b)) → Same H H' → Q (.int (b : Int)) H'
theorem sc_first_greatest : FnScope ["rows", "left", "best", "others", "number"] ["rows", "left"] (defScope s_first_greatest) := ⟨rfl, rfl, rfl, by decide +kernel, rfl, by decide +kernel, by decide +kernel⟩
theorem ok_first_greatest (T : Tx w K mg) : DefOk P w K mg base "first_greatest" 2 [] (sp_first_greatest K) := by
  obtain ⟨fd, F⟩ := T.q_first_greatest
  refine DefOk.of (ps := ["rows", "left"]) F T.g_first_greatest (fun _ _ _ _ _ _ us hl => match us, hl with | [_, _], _ => rfl) (FunD.ok0 F sc_first_greatest (fun vs H Q E h => ?_) (fun cdv A outer s H vs Q E hr h => ?_))
  · obtain ⟨R, L, rs, xs, is, rfl, _⟩ := h
    rfl
  · obtain ⟨R, L, rs, xs, is, rfl, hR, hrows, hsz, hL, hne, hlen, hlt, hQ⟩ := h
    refine ⟨_, (pss_cons (ps_asg (pv 1) (pg_star (by rfl) (pg_name (i := 2) sc_first_greatest.nd rfl (Or.inl rfl)) (pg_name (i := 3) sc_first_greatest.nd rfl (Or.inl rfl))))
      (pss_cons (ps_for PassesOwn.never rfl (pi_list (pv 3)) (pg_name (i := 4) sc_first_greatest.nd rfl (Or.inl rfl)) (pss_one (ps_if (pt_val (pe_M_below T (hr.mono (by decide)) (pe_ix ix_tup (pe_ix ix_list (pv 0) (pv 2) (fun _ _ => rfl)) pe_int (fun _ _ => rfl)) (pa_cons (pe_ix ix_tup (pe_ix ix_list (pv 0) (pv 4) (fun _ _ => rfl)) pe_int (fun _ _ => rfl)) pa_nil))) (pss_one (ps_set (i := 2) sc_first_greatest.nd rfl (Or.inl rfl) (pv 4))) pss_nil)))
      (pss_one (ps_ret (pv 2))))), ?_⟩
    obtain ⟨i0, r, rfl⟩ : ∃ i0 r, is = i0 :: r := by
      cases is with
      | nil => exact absurd rfl hne
      | cons a r => exact ⟨a, r, rfl⟩
    have hl2 : r.length ≤ 20 := by simp at hlen; omega
    refine ⟨_, rfl, L, .int (i0 : Int), natsV r, rfl, SqL.of hL, by unfold natsV; rw [List.length_map]; omega, fun O nO => ?_⟩
    have s0 : Same H (upd H O (.lst (natsV r))) := Same.upd nO
    refine ⟨_, rfl, O, rfl, ⟨_, SqL.of upd_same⟩, for_list (K := K) (a := O) (xs := natsV r) (fun i σ H' => ∃ (b : Nat) (z : Option V), σ = [some (.ref R), some (.ref L), some (.int (b : Int)), some (.ref O), z] ∧ H' = upd H O (.lst (natsV r)) ∧ b ∈ i0 :: r.take i ∧ ∀ k ∈ i0 :: r.take i, fr (xat xs k) ≤ fr (xat xs b))
      ⟨i0, none, rfl, rfl, by simp, fun k hk => by
        have e : k = i0 := by simpa using hk
        rw [e]
        exact Rat.le_refl⟩ (fun i σ H' _ ⟨_, _, _, e, _⟩ => by rw [e]; exact SqL.of upd_same) ?_ ?_⟩
    · rintro i x σ H' hi ⟨b, z, rfl, rfl, hb, hm⟩
      obtain ⟨k, hk, rfl⟩ := natsV_get hi
      have mb : b ∈ i0 :: r := by
        rcases List.mem_cons.mp hb with e | e
        · rw [e]; exact List.mem_cons_self
        · exact List.mem_cons_of_mem _ (List.mem_of_mem_take e)
      have mk : k ∈ i0 :: r := List.mem_cons_of_mem _ (List.mem_of_getElem? hk)
      obtain ⟨t1, y1, a1, b1, c1⟩ := (hrows.same s0).at (hlt b mb)
      obtain ⟨t2, y2, a2, b2, c2⟩ := (hrows.same s0).at (hlt k mk)
      have htk : r.take (i + 1) = r.take i ++ [k] := by
        rw [List.take_add_one, hk]
        rfl
      refine ⟨_, rfl, _, rfl, R, rs, _, _, rfl, rfl, SqL.of (s0 _ _ hR), atI_nat a1, t1, _, _, y1, rfl, rfl, SqT.of b1, rfl, _, c1, ?_⟩
      refine ⟨_, rfl, _, rfl, R, rs, _, _, rfl, rfl, SqL.of (s0 _ _ hR), atI_nat a2, t2, _, _, y2, rfl, rfl, SqT.of b2, rfl, ?_⟩
      refine ⟨_, _, _, _, rfl, c1, c2, (sz_xat hsz b).mono (by decide), (sz_xat hsz k).mono (by decide), _, rfl, ?_⟩
      by_cases c : fr (xat xs b) < fr (xat xs k)
      · rw [decide_eq_true c]
        refine iteT ⟨_, rfl, ?_⟩
        refine ⟨k, _, rfl, rfl, by rw [htk]; simp, fun j hj => ?_⟩
        rw [htk] at hj
        rcases List.mem_cons.mp hj with e | e
        · have := hm j (by rw [e]; exact List.mem_cons_self)
          grind
        · rcases List.mem_append.mp e with e | e
          · have := hm j (List.mem_cons_of_mem _ e)
            grind
          · have e2 : j = k := by simpa using e
            rw [e2]
            exact Rat.le_refl
      · rw [decide_eq_false c]
        refine iteF ?_
        refine ⟨b, _, rfl, rfl, ?_, fun j hj => ?_⟩
        · rw [htk]
          rcases List.mem_cons.mp hb with e | e
          · rw [e]; exact List.mem_cons_self
          · exact List.mem_cons_of_mem _ (List.mem_append_left _ e)
        · rw [htk] at hj
          rcases List.mem_cons.mp hj with e | e
          · exact hm j (by rw [e]; exact List.mem_cons_self)
          · rcases List.mem_append.mp e with e | e
            · exact hm j (List.mem_cons_of_mem _ e)
            · have e2 : j = k := by simpa using e
              rw [e2]
              grind
    · rintro σ H' ⟨b, z, rfl, rfl, hb, hm⟩
      have e : r.take (natsV r).length = r := by
        unfold natsV
        rw [List.length_map, List.take_length]
      rw [e] at hb hm
      exact ⟨_, rfl, hQ b _ hb hm s0⟩
/-! ### parts_rounded -/
theorem opK {X : Cx} {op : Value → Value → Sem Value} {K0 : W.Frag} (r : W.Frag → R2) (hk : X.K = K0) (h : OpR X op (r X.K)) : OpR X op (r K0) := by
  subst hk
  exact h
theorem peK {X : Cx} {e : Expr} {K0 : W.Frag} (r : W.Frag → TE) (hk : X.K = K0) (h : PE X e (r X.K)) : PE X e (r K0) := by
  subst hk
  exact h
theorem pg_tupK {X : Cx} {pos : Pos} {es : List Expr} {k : Nat} {t : TGs} {n : Nat} {K0 : W.Frag} (hk : X.K = K0) (hc : X.calm = true) (h : PGs X es t)
    (hn : (assignEach es X.env).length = n := by rfl) (hs : List.findIdx? (fun x => x.fst) (assignEach es X.env) = none := by rfl) : PG X (Expr.Tuple es k pos) (gTup K0 n t) := by
  subst hk
  exact pg_tup hc h hn hs
theorem natsV_eq (is : List Nat) : natsV is = (is.map fun (i : Nat) => (i : Int)).map V.int := by
  unfold natsV
  rw [List.map_map]
  rfl
theorem natsV_len (is : List Nat) : (natsV is).length = is.length := by
  unfold natsV
  rw [List.length_map]
theorem natsV_snoc (is : List Nat) (b : Nat) : natsV is ++ [.int (b : Int)] = natsV (is ++ [b]) := by
  unfold natsV
  simp
theorem lt_idxOf {b : Nat} : ∀ {l : List Nat} {m : Nat} {hl : m < l.length}, m < l.idxOf b → l[m] = b → False
  | [], m, hl, _, _ => absurd hl (by simp)
  | a :: r, 0, _, h, e => by
    have e2 : a = b := e
    rw [e2, List.idxOf_cons_self] at h
    exact absurd h (by decide)
  | a :: r, m + 1, hl, h, e => by
    rw [List.idxOf_cons] at h
    cases c : a == b with
    | true => rw [c] at h; simp at h
    | false =>
      rw [c] at h
      have h2 : m < r.idxOf b := by simpa using h
      exact lt_idxOf (hl := by simpa using hl) h2 e
theorem natsV_erase {is : List Nat} {b : Nat} (h : b ∈ is) : ∃ j : Nat, (is.map fun (i : Nat) => (i : Int))[j]? = some (b : Int) ∧ (∀ m : Nat, m < j → (is.map fun (i : Nat) => (i : Int))[m]? ≠ some (b : Int)) ∧ ((is.map fun (i : Nat) => (i : Int)).eraseIdx j).map V.int = natsV (is.erase b) := by
  have hlt := List.idxOf_lt_length_of_mem h
  refine ⟨is.idxOf b, ?_, fun m hm e => ?_, ?_⟩
  · rw [List.getElem?_map, List.getElem?_eq_getElem hlt]
    have : is[is.idxOf b] = b := List.getElem_idxOf hlt
    rw [this]
    rfl
  · rw [List.getElem?_map, List.getElem?_eq_getElem (by omega)] at e
    have e2 : ((is[m] : Nat) : Int) = (b : Int) := Option.some.inj e
    have e3 : is[m] = b := by omega
    exact lt_idxOf hm e3
  · rw [map_eraseIdx, ← List.erase_eq_eraseIdx_of_idxOf rfl, natsV_eq]
theorem inV_nats (i : Nat) (js : List Nat) : inV (.int (i : Int)) (natsV js) = decide (i ∈ js) := by
  unfold inV natsV
  rw [List.any_map]
  by_cases c : i ∈ js
  · rw [decide_eq_true c, List.any_eq_true]
    exact ⟨i, c, beq_self_eq_true (i : Int)⟩
  · rw [decide_eq_false c, List.any_eq_false]
    intro x hx e
    have e2 : ((x : Int) == (i : Int)) = true := e
    have e3 : (x : Int) = (i : Int) := eq_of_beq e2
    exact c (by rw [show i = x by omega]; exact hx)
theorem flat_nats (js : List Nat) : (natsV js).all flatV = true := by
  unfold natsV
  rw [List.all_map, List.all_eq_true]
  intro x _
  rfl
theorem floors_take {xs : List Rat} {i : Nat} (h : i < xs.length) : (floors (xs.take (i + 1))).map V.int = (floors (xs.take i)).map V.int ++ [.int (xat xs i).floor] := by
  have e : xs[i]? = some (xat xs i) := by
    rw [List.getElem?_eq_getElem h, xat_eq (List.getElem?_eq_getElem h)]
  unfold floors
  rw [List.take_add_one, e]
  simp
theorem raise_take {xs : List Rat} {js : List Nat} {i : Nat} (h : i < xs.length) : ((raise xs js).take (i + 1)).map V.int = ((raise xs js).take i).map V.int ++ [.int ((xat xs i).floor + (if decide (i ∈ js) then 1 else 0))] := by
  have e : (raise xs js)[i]? = some ((xat xs i).floor + (if decide (i ∈ js) then 1 else 0)) := by
    unfold raise
    rw [List.getElem?_map, List.getElem?_range h]
    simp
  rw [List.take_add_one, e]
  simp
/-- at a stands a paper of these ratios -/
def SumAt (C : Addr) (H : Hp) (a : Addr) (xs : List Rat) : Prop := ∃ (b : Addr) (v : V) (cs : List Int) (t : Rat), H a = some (.tup [.ref b, v]) ∧ H b = some (.tup (cs.map V.int)) ∧ NumV C H v t ∧ Good xs cs t ∧ Sz 300 t
def sp_parts_rounded (K : PySem.W.Frag) : Sp := fun vs H Q _ => ∃ (x y : V) (qs : List Rat) (s : Rat), vs = [x, y] ∧ TupN (CN K) H x qs ∧ Parts qs ∧ NumV (CN K) H y s ∧ Sz 100 s ∧ 0 < s ∧
  ∀ a H', Same H H' → SumAt (CN K) H' a (qs.map (· / s)) → Q (.ref a) H'
theorem sc_parts_rounded : FnScope ["parts", "step", "rows", "lacking", "left", "threshold", "raised", "best", "counts", "number", "count", "beyond"] ["parts", "step"] (defScope s_parts_rounded) := ⟨rfl, rfl, rfl, by decide +kernel, rfl, by decide +kernel, by decide +kernel⟩
theorem ok_parts_rounded (T : Tx w K mg) : DefOk P w K mg base "parts_rounded" 9 [] (sp_parts_rounded K) := by
  obtain ⟨fd, F⟩ := T.q_parts_rounded
  refine DefOk.of (ps := ["parts", "step"]) F T.g_parts_rounded (fun _ _ _ _ _ _ us hl => match us, hl with | [_, _], _ => rfl) (FunD.ok0 F sc_parts_rounded (fun vs H Q E h => ?_) (fun cdv A outer s H vs Q E hr h => ?_))
  · obtain ⟨x, y, qs, s, rfl, _⟩ := h
    rfl
  · obtain ⟨x, y, qs, q, rfl, hx, hs, hq, sq, h0, hQ⟩ := h
    refine ⟨_, (pss_cons (ps_set (i := 2) sc_parts_rounded.nd rfl (Or.inl rfl) (pe_d (ok_beyond_of T) (hr.mono (by decide)) (pa_cons (pv 0) (pa_cons (pv 1) pa_nil))))
      (pss_cons (ps_set (i := 3) sc_parts_rounded.nd rfl (Or.inl rfl) (pe_op op_sub (pe_d (ok_steps_of T) (hr.mono (by decide)) (pa_cons (pv 0) (pa_cons (pv 1) pa_nil))) (pe_callB (cr_sum rfl) (by rfl) T.n_sum (by decide +kernel) (pa_cons (pe_lc (own := [("count", 10), ("beyond", 11)]) (tt := tYes) (by rfl) sc_parts_rounded.nd (pi_list (pv 2)) (blkOk_by (N := ["parts", "step", "rows", "lacking", "left", "threshold", "raised", "best", "counts", "number", "count", "beyond"]) (sc := defScope s_parts_rounded) (by decide +kernel)) (fun _ _ _ _ _ => (pg_tupK (K0 := K) (n := 2) (by rfl) (by rfl) (pgs_cons (pg_name (i := 10) sc_parts_rounded.nd rfl (Or.inl rfl)) (pgs_cons (pg_name (i := 11) sc_parts_rounded.nd rfl (Or.inl rfl)) pgs_nil)))) (fun _ _ _ _ _ => pts_nil) (fun _ _ _ _ _ => (pv 10))) pa_nil))))
      (pss_cons (ps_set (i := 4) sc_parts_rounded.nd rfl (Or.inl rfl) (pe_listRg (by rfl) (by rfl) T.n_list (prg_1 (by rfl) T.n_range (pe_callB call_len_seq (by rfl) T.n_len (by decide +kernel) (pa_cons (pv 2) pa_nil)))))
      (pss_cons (ps_set (i := 5) sc_parts_rounded.nd rfl (Or.inl rfl) (pe_N1 T (hr.mono (by decide)) (pa_cons pe_int pa_nil)))
      (pss_cons (ps_set (i := 6) sc_parts_rounded.nd rfl (Or.inr rfl) (pe_lst pa_nil))
      (pss_cons (ps_while PassesOwn.never (pt_cmpR op_lt (pe_callB call_len_seq (by rfl) T.n_len (by decide +kernel) (pa_cons (pv 6) pa_nil)) (pv 3) (nomark _)) (pss_cons (ps_set (i := 7) sc_parts_rounded.nd rfl (Or.inl rfl) (pe_d (ok_first_greatest T) (hr.mono (by decide)) (pa_cons (pv 2) (pa_cons (pv 4) pa_nil))))
      (pss_cons (ps_expr (pe_bm PySem.F.plainAttrs_list PySem.F.slot_list_remove PySem.F.type_list_remove mt_remove (pv 4) (pa_cons (pv 7) pa_nil)))
      (pss_cons (ps_expr (pe_bm PySem.F.plainAttrs_list PySem.F.slot_list_append PySem.F.type_list_append mt_append (pv 6) (pa_cons (pv 7) pa_nil)))
      (pss_one (ps_set (i := 5) sc_parts_rounded.nd rfl (Or.inl rfl) (pe_ix ix_tup (pe_ix ix_list (pv 2) (pv 7) (fun _ _ => rfl)) pe_int (fun _ _ => rfl))))))))
      (pss_cons (ps_setLc (i := 8) (own := [("number", 9), ("count", 10), ("beyond", 11)]) (tt := tYes) (by rfl) sc_parts_rounded.nd rfl rfl (sw_true rfl rfl rfl (by decide +kernel)) (pi_enum (by rfl) T.n_enumerate (pa_cons (pv 2) pa_nil)) (blkOk_by (N := ["parts", "step", "rows", "lacking", "left", "threshold", "raised", "best", "counts", "number", "count", "beyond"]) (sc := defScope s_parts_rounded) (by decide +kernel)) (fun _ _ _ _ _ => (pg_tupK (K0 := K) (n := 2) (by rfl) (by rfl) (pgs_cons (pg_name (i := 9) sc_parts_rounded.nd rfl (Or.inl rfl)) (pgs_cons (pg_tupK (K0 := K) (n := 2) (by rfl) (by rfl) (pgs_cons (pg_name (i := 10) sc_parts_rounded.nd rfl (Or.inl rfl)) (pgs_cons (pg_name (i := 11) sc_parts_rounded.nd rfl (Or.inl rfl)) pgs_nil))) pgs_nil)))) (fun _ _ _ _ _ => pts_nil) (fun _ _ _ _ _ => (pe_op op_add (pv 10) (pe_callTy call_int1 (by rfl) T.n_int (by decide +kernel) (pa_cons (pe_cmpR (opK (K0 := K) (fun K => rIn K false) (by rfl) op_in_seq) (pv 9) (pv 6) rfl) pa_nil)))))
      (pss_one (ps_ret (pe_tup (pa_cons (pe_callTy call_tuple_of (by rfl) T.n_tuple (by decide +kernel) (pa_cons (pv 8) pa_nil)) (pa_cons (pv 5) pa_nil)))))))))))), ?_⟩
    have e0 : q ≠ 0 := fun e => by rw [e] at h0; exact absurd h0 (by decide)
    -- rows
    refine ⟨_, rfl, _, rfl, x, y, qs, q, rfl, hx, hs, hq, sq, h0, fun R rs H1 nR s1 eR rows1 => ?_⟩
    have hxs : ∀ z ∈ qs.map (· / q), Sz 140 z := fun z hz => by
      obtain ⟨p, hp, rfl⟩ := List.mem_map.mp hz
      exact ((hs.small p hp).div2 sq h0).mono (by decide)
    have hfew : (qs.map (· / q)).length ≤ 20 := by rw [List.length_map]; exact hs.few
    have esum := sumQ_div qs e0
    generalize exs : qs.map (· / q) = xs at *
    have hrl : rs.length = xs.length := rows1.1
    -- lacking
    refine ⟨_, rfl, _, rfl, x, y, qs, q, rfl, hx.same s1, hs, hq.same s1, sq, h0, fun H2 s2 => ?_⟩
    rw [← esum]
    refine ⟨_, rfl, R, rfl, ⟨_, SqL.of (s2 _ _ eR)⟩, fun D nD => lc_list (K := K) (a := R) (xs := rs) (fun i H' => Same H2 H' ∧ H' D = some (.lst ((floors (xs.take i)).map V.int)))
      ⟨Same.upd nD, by rw [upd_same]; simp [floors]⟩ (fun i H' _ ⟨s3, _⟩ => SqL.of ((s2.trans s3) _ _ eR)) ?_ ?_⟩
    · rintro i r H' hi ⟨s3, hD⟩
      have hlt : i < xs.length := by rw [← hrl]; exact (List.getElem?_eq_some_iff.mp hi).1
      obtain ⟨t, y2, a1, b1, c1⟩ := (rows1.same (s2.trans s3)).at hlt
      rw [hi] at a1
      cases a1
      refine ⟨t, _, rfl, SqT.of b1, rfl, _, _, rfl, _, _, rfl, rfl, rfl, ?_⟩
      refine Exists.intro _ ⟨rfl, _, hD, ?_, ?_, ?_⟩
      · rw [List.length_map]
        unfold floors
        rw [List.length_map, List.length_take, sizeLine_eq]
        omega
      · intro b o e
        rw [upd_ne (ne_of_none e nD)]
        exact s3 _ _ e
      · rw [upd_same, floors_take hlt]
    · rintro H3 ⟨s3, hD⟩
      rw [hrl, List.take_length] at hD
      have s13 := s2.trans s3
      refine ⟨D, _, rfl, SqL.of hD, _, _, rfl, rfl, ?_⟩
      -- left
      refine ⟨_, rfl, R, rs, rfl, .inl (SqL.of (s13 _ _ eR)), _, rfl, .of_le (by decide) (by omega) (by decide) (by omega), fun L nL => ?_⟩
      have eL : rgV 0 (rs.length : Int) = natsV (List.range xs.length) := by
        unfold rgV natsV
        rw [hrl]
        simp
      -- threshold, raised
      refine ⟨_, rfl, fun v4 H4 s4 n4 => ?_⟩
      refine ⟨by show 0 ≤ sizeLine; decide, fun J nJ => ?_⟩
      have sB : Same H3 (upd (upd H3 L (.lst (rgV 0 (rs.length : Int)))) J (.lst [])) → True := fun _ => trivial
      have hL4 : H4 L = some (.lst (natsV (List.range xs.length))) := s4 _ _ (by rw [upd_same, eL])
      have s34 : Same H3 H4 := (Same.upd nL).trans s4
      have nJ3 : H3 J = none := s34.free nJ
      have hJL : J ≠ L := fun e => by
        rw [e, hL4] at nJ
        cases nJ
      have lac0 := lacking_nonneg xs
      have lac1 := lacking_le xs
      have br := broken_le xs
      refine while_by (fun σ H' => ∃ (is js : List Nat) (thr : V) (t : Rat) (z : Option V), σ = [some x, some y, some (.ref R), some (.int (lacking xs)), some (.ref L), some thr, some (.ref J), z, none, none, none, none] ∧ Same H3 H' ∧
          H' L = some (.lst (natsV is)) ∧ H' J = some (.lst (natsV js)) ∧ NumV (CN K) H' thr t ∧ RInv xs js is t ∧ Sz 300 t ∧ (js.length : Int) ≤ lacking xs)
        (fun σ H' => match H' J with | some (.lst ys) => (lacking xs).toNat - ys.length | _ => 0)
        ⟨List.range xs.length, [], v4, 1, none, rfl, s34.trans (Same.upd nJ), by rw [upd_ne (Ne.symm hJL)]; exact hL4, by rw [upd_same]; rfl, n4.same (Same.upd nJ), RInv.start xs, by
          exact ⟨by unfold Bd; decide, by unfold Bd; decide⟩, by show (0 : Int) ≤ lacking xs; exact lac0⟩ ?_ ?_
      · rintro σ H5 ⟨is, js, thr, t, z, rfl, s5, hL, hJ, hthr, inv, sz, hle⟩
        refine ⟨_, rfl, J, _, rfl, .inl (SqL.of hJ), _, rfl, _, _, rfl, rfl, _, rfl, ?_⟩
        rw [natsV_len]
        have nd : (js ++ is).Nodup := inv.perm.nodup_iff.mpr List.nodup_range
        have hmem : ∀ i ∈ js ++ is, i < xs.length := fun i hi => List.mem_range.mp (inv.perm.mem_iff.mp hi)
        have hlen : js.length + is.length = xs.length := by
          have := inv.perm.length_eq
          rw [List.length_append, List.length_range] at this
          exact this
        have s35 : Same H1 H5 := s13.trans s5
        by_cases c : (js.length : Int) < lacking xs
        · rw [decide_eq_true c]
          refine iteT ?_
          -- best
          refine ⟨_, rfl, _, rfl, R, L, rs, xs, is, rfl, s35 _ _ eR, rows1.same s35, hxs, hL, ?_, by omega, fun i hi => hmem i (List.mem_append_right _ hi), fun b H6 mb hm s6 => ?_⟩
          · intro e
            rw [e] at hlen
            simp at hlen
            omega
          -- left.remove(best)
          obtain ⟨j, j1, j2, j3⟩ := natsV_erase mb
          refine ⟨_, rfl, .inl ⟨rfl, _, SqL.of (s6 _ _ hL)⟩, _, rfl, L, _, _, j, rfl, rfl, by rw [← natsV_eq]; exact s6 _ _ hL, j1, j2, ?_⟩
          rw [j3]
          -- raised.append(best)
          have hJ6 : upd H6 L (.lst (natsV (is.erase b))) J = some (.lst (natsV js)) := by
            rw [upd_ne hJL]
            exact s6 _ _ hJ
          refine ⟨_, rfl, .inl ⟨rfl, _, SqL.of hJ6⟩, _, rfl, J, _, _, rfl, rfl, hJ6, by rw [natsV_len, sizeLine_eq]; omega, ?_⟩
          rw [natsV_snoc]
          -- threshold
          have hM : Lsts (fun a => a = L ∨ a = J) H6 := fun a ha => by
            rcases ha with rfl | rfl
            · exact ⟨_, s6 _ _ hL⟩
            · exact ⟨_, s6 _ _ hJ⟩
          have hK : Keep (fun a => a = L ∨ a = J) H6 (upd (upd H6 L (.lst (natsV (is.erase b)))) J (.lst (natsV (js ++ [b])))) := fun a o e n => by
            rw [upd_ne fun z => n (.inr z), upd_ne fun z => n (.inl z)]
            exact e
          have s7 : Same H3 (upd (upd H6 L (.lst (natsV (is.erase b)))) J (.lst (natsV (js ++ [b])))) := fun a o e => by
            rw [upd_ne (ne_of_none e nJ3), upd_ne (ne_of_none e nL)]
            exact (s5.trans s6) _ _ e
          obtain ⟨t2, y2, a2, b2, c2⟩ := (rows1.same (s13.trans s7)).at (hmem b (List.mem_append_right _ mb))
          refine ⟨_, rfl, _, rfl, R, rs, _, _, rfl, rfl, SqL.of ((s13.trans s7) _ _ eR), atI_nat a2, t2, _, _, y2, rfl, rfl, SqT.of b2, rfl, ?_⟩
          refine ⟨⟨is.erase b, js ++ [b], y2, fr (xat xs b), some (.int (b : Int)), rfl, s7, ?_, upd_same, c2, inv.step mb hm (by omega), sz_xat hxs b, ?_⟩, ?_⟩
          · rw [upd_ne (Ne.symm hJL), upd_same]
          · rw [List.length_append]
            simp
            omega
          · show (match upd (upd H6 L (.lst (natsV (is.erase b)))) J (.lst (natsV (js ++ [b]))) J with | some (.lst ys) => (lacking xs).toNat - ys.length | _ => 0) < (match H5 J with | some (.lst ys) => (lacking xs).toNat - ys.length | _ => 0)
            rw [upd_same, hJ]
            show (lacking xs).toNat - (natsV (js ++ [b])).length < (lacking xs).toNat - (natsV js).length
            rw [natsV_len, natsV_len, List.length_append]
            simp
            omega
        · rw [decide_eq_false c]
          refine iteF ?_
          have hj : (js.length : Int) = lacking xs := by omega
          -- counts
          refine ⟨_, rfl, R, rs, rfl, SqL.of (s35 _ _ eR), fun D2 nD2 => lc_it (walk_enum (K := K) (a := R) (xs := rs)) (fun i H' => Same H5 H' ∧ H' D2 = some (.lst (((raise xs js).take i).map V.int)))
            ⟨Same.upd nD2, by rw [upd_same]; simp⟩ (fun i H' _ ⟨s6, _⟩ => SqL.of ((s35.trans s6) _ _ eR)) ?_ ?_⟩
          · rintro i v H' H6 hi ⟨s6, hD2⟩ ⟨t, u1, u2, rfl, nt, rfl, e1, e2⟩
            cases e1
            have hlt : i < xs.length := by rw [← hrl]; exact hi
            have s7 := Same.updOf (o := .tup [.int (i : Int), u2]) s6 nt
            obtain ⟨t2, y2, a2, b2, c2⟩ := (rows1.same (s35.trans s7)).at hlt
            have e2' : rs[i]? = some u2 := e2
            rw [a2] at e2'
            cases e2'
            refine ⟨t, _, rfl, SqT.of upd_same, rfl, _, _, rfl, _, _, rfl, ⟨t2, _, rfl, SqT.of b2, rfl, _, _, rfl, _, _, rfl, rfl, rfl, rfl, ?_⟩⟩
            refine Exists.intro _ ⟨rfl, _, rfl, _, rfl, J, _, rfl, .inl (SqL.of (s7 _ _ hJ)), rfl, flat_nats js, ?_⟩
            refine .inr ⟨_, rfl, ?_⟩
            refine ⟨_, _, rfl, rfl, _, (Same.upd nt) _ _ hD2, ?_, ?_, ?_⟩
            · rw [List.length_map, List.length_take, sizeLine_eq]
              omega
            · intro b o e
              rw [upd_ne (ne_of_none e nD2)]
              exact s7 _ _ e
            · rw [upd_same, raise_take hlt, inV_nats]
              rfl
          · rintro H6 ⟨s6, hD2⟩
            have hrl2 : (raise xs js).length = xs.length := by
              unfold raise
              simp
            rw [hrl, ← hrl2, List.take_length] at hD2
            refine ⟨_, rfl, D2, _, rfl, .inl ⟨SqL.of hD2, fun tt ntt => ?_⟩⟩
            refine ⟨_, rfl, by show 2 ≤ sizeLine; decide, fun a na => ?_⟩
            have s8 := Same.updOf (o := .tup ((raise xs js).map V.int)) s6 ntt
            have s9 : Same H5 (upd (upd H6 tt (.tup ((raise xs js).map V.int))) a (.tup [.ref tt, thr])) := Same.updOf s8 na
            refine hQ a _ ((s1.trans s35).trans s9) ⟨tt, thr, raise xs js, t, upd_same, ?_, hthr.same s9, inv.good hj, sz⟩
            rw [upd_ne (fun e => by rw [← e, upd_same] at na; cases na), upd_same]
      · intro σ H' Q1 Q2 hQQ hc
        obtain ⟨v, e1, p, ys, e2, e3, i, e4, i1, j1, e5, e6, k, e7, r⟩ := hc
        exact ⟨v, e1, p, ys, e2, e3, i, e4, i1, j1, e5, e6, k, e7, hQQ _ _ r⟩
end
end Fg
set_option Elab.async false
set_option linter.all false
set_option maxRecDepth 100000
set_option maxHeartbeats 1000000
/-! D6: shortest. -/
namespace Fg
open PySem PySem.Spec PyProof.Rows L2
/-! ### rules with the fragment told -/
section
variable {X : Cx} {K0 : PySem.W.Frag} {e o : Expr} {es : List Expr} {ta : TE} {t : TA} {p apos pos : Pos}
theorem pe_N1K (hk : X.K = K0) (T : Tx X.w K0 X.mg) (hr : Room 3 X.A) {e1 : Expr} (ha : PA X [e1] t) (hg : Gl X "Number" := by rfl) (he : starEach [e1] X.env = (false, eval e1 X.env) :: starEach [] X.env := by rfl) (hpl : (backTo pos (starEach [] X.env)).any (·.1) = false := by rfl) :
    PE X (.Call (.Name "Number" p) [e1] [] pos) (tN1 K0 t) := by
  subst hk
  exact pe_N1 T hr ha hg he hpl
theorem pe_M_timesK {pl : Sem Bool} (hk : X.K = K0) (T : Tx X.w K0 X.mg) (hr : Room 4 X.A) (he : PE X o ta) (ha : PA X (e :: es) t)
    (ht : eval (.Call (.Attribute o "times" apos) (e :: es) [] pos) X.env = (do
      let ov ← eval o X.env
      standAt apos.atName
      let (f, first) ← holding [ov] (getMethod ov "times" pl)
      callWith pos f first (backTo pos (starEach (e :: es) X.env)) (backToKw pos (keywordEach [] X.env))) := by rfl)
    (hs : starEach (e :: es) X.env = (false, eval e X.env) :: starEach es X.env := by rfl) (hpl : (backTo pos (starEach es X.env)).any (·.1) = false := by rfl) : PE X (.Call (.Attribute o "times" apos) (e :: es) [] pos) (tM K0 (sp_times K0) ta t) := by
  subst hk
  exact pe_M_times T hr he ha ht hs hpl
end
/-! ### a list of ints and [] -/
def intL (xs : List Int) : List V := xs.map V.int
theorem dp_ints {K : PySem.W.Frag} {H : Hp} : ∀ xs : List Int, DpAll K H (intL xs) (xs.map PyData.int)
  | [] => .nil
  | x :: r => .cons (.int x) (dp_ints r)
theorem can_ints : ∀ xs : List Int, PyData.canLayAll0 (xs.map PyData.int) = true
  | [] => by simp [PyData.canLayAll0]
  | x :: r => by simp [PyData.canLayAll0, PyData.canLay0, can_ints r]
theorem dep_ints : ∀ xs : List Int, PyData.depthAll (xs.map PyData.int) ≤ 1
  | [] => by simp [PyData.depthAll]
  | x :: r => by
    have := dep_ints r
    simp only [List.map_cons, PyData.depthAll, PyData.depth]
    omega
theorem shaped_ints (xs : List Int) : SeqAt.shaped (.list (xs.map PyData.int)) = true := by
  unfold SeqAt.shaped
  have := dep_ints xs
  rw [Bool.and_eq_true]
  refine ⟨by simp only [PyData.canLay0]; exact can_ints xs, decide_eq_true ?_⟩
  simp only [PyData.depth]
  omega
theorem eqv_ints : ∀ xs : List Int, PyData.eqv (.list (xs.map PyData.int)) (.list []) = xs.isEmpty
  | [] => by simp [PyData.eqv, PyData.eqvAll]
  | x :: r => by simp [PyData.eqv, PyData.eqvAll]
section
variable {X : Cx}
def rEmp (neg : Bool) : R2 := fun x y H Q => ∃ (a b : Addr) (xs : List Int), x = .ref a ∧ y = .ref b ∧ H a = some (.lst (intL xs)) ∧ H b = some (.lst []) ∧ Q (.bl (xor neg xs.isEmpty)) H
theorem op_eqE (hr : Room 2 X.A) : OpR X (compareOp .Eq) (rEmp false) := by
  intro pins s σ H x y v u Q I rx ry h
  obtain ⟨a, b, xs, rfl, rfl, ha, hb, q⟩ := h
  refine op_eqD hr.units pins s σ H _ _ v u Q I rx ry ⟨_, _, .lst (SqL.of ha) (dp_ints xs), .lst (SqL.of hb) .nil, shaped_ints xs, by decide, ?_⟩
  rw [eqv_ints]
  simpa using q
theorem op_neE (hr : Room 2 X.A) : OpR X (compareOp .NotEq) (rEmp true) := by
  intro pins s σ H x y v u Q I rx ry h
  obtain ⟨a, b, xs, rfl, rfl, ha, hb, q⟩ := h
  refine op_neD hr.units pins s σ H _ _ v u Q I rx ry ⟨_, _, .lst (SqL.of ha) (dp_ints xs), .lst (SqL.of hb) .nil, shaped_ints xs, by decide, ?_⟩
  rw [eqv_ints]
  simpa using q
end
section
variable {P : Program} {w : World} {K : PySem.W.Frag} {mg : Str → Option Value} {base : Heap}
/-! ### ten_to, by_ten -/
def sp_ten_to (K : PySem.W.Frag) : Sp := fun vs H Q _ => ∃ e : Int, vs = [.int e] ∧ -60 ≤ e ∧ e ≤ 60 ∧ ∀ v H', Same H H' → NumV (CN K) H' v (ten e) → Q v H'
theorem sc_ten_to : FnScope ["power"] ["power"] (defScope s_ten_to) := ⟨rfl, rfl, rfl, by decide +kernel, rfl, by decide +kernel, by decide +kernel⟩
theorem rat_one (q : Rat) : q / ((1 : Int) : Rat) = q := by
  have : ((1 : Int) : Rat) = 1 := rfl
  rw [this]
  grind
theorem ok_ten_to (T : Tx w K mg) : DefOk P w K mg base "ten_to" 4 [] (sp_ten_to K) := by
  obtain ⟨fd, F⟩ := T.q_ten_to
  refine DefOk.of (ps := ["power"]) F T.g_ten_to (fun _ _ _ _ _ _ us hl => match us, hl with | [_], _ => rfl) (FunD.ok0 F sc_ten_to (fun vs H Q E h => ?_) (fun cdv A outer s H vs Q E hr h => ?_))
  · obtain ⟨e, rfl, _⟩ := h
    rfl
  · obtain ⟨e, rfl, h1, h2, hQ⟩ := h
    refine ⟨_, (pss_cons (ps_if (pt_cmpR op_lt (pv 0) pe_int (nomark _)) (pss_one (ps_ret (pe_N2 T (hr.mono (by decide)) (pa_cons pe_int (pa_cons (pe_callTy call_int_str (by rfl) T.n_int (by decide +kernel) (pa_cons (pe_op op_add_str pe_str (pe_op op_mulS pe_str (pe_un un_neg (pv 0)))) pa_nil)) pa_nil))))) pss_nil)
      (pss_one (ps_ret (pe_N1 T (hr.mono (by decide)) (pa_cons (pe_callTy call_int_str (by rfl) T.n_int (by decide +kernel) (pa_cons (pe_op op_add_str pe_str (pe_op op_mulS pe_str (pv 0))) pa_nil)) pa_nil))))), ?_⟩
    refine ⟨_, rfl, _, _, rfl, rfl, _, rfl, ?_⟩
    by_cases c : e < 0
    · rw [decide_eq_true c]
      obtain ⟨g1, g2, g3⟩ := tenS_ok (n := (-e).toNat) (by omega)
      have en : (((-e).toNat : Nat) : Int) = -e := by omega
      rw [en] at g1 g2 g3
      refine iteT ⟨_, rfl, _, rfl, _, -e, rfl, rfl, by decide, by omega, by omega, _, _, rfl, rfl, by rw [sizeLine_eq]; show 1 + _ ≤ _; omega, _, _, rfl, g1, g2, 1, _, rfl, ipow_pos _, (bd_pow (by omega)).mono (by decide), fun v H' s n => hQ v H' s ?_⟩
      have e2 : ten e = ((1 : Int) : Rat) / (((10 : Int) ^ (-e).toNat : Int) : Rat) := by
        unfold ten
        rw [if_pos c]
        rfl
      rw [e2]
      exact n
    · rw [decide_eq_false c]
      obtain ⟨g1, g2, g3⟩ := tenS_ok (n := e.toNat) (by omega)
      have en : ((e.toNat : Nat) : Int) = e := by omega
      rw [en] at g1 g2 g3
      refine iteF ⟨_, rfl, _, e, rfl, rfl, by decide, by omega, by omega, _, _, rfl, rfl, by rw [sizeLine_eq]; show 1 + _ ≤ _; omega, _, _, rfl, g1, g2, _, rfl, fun v H' s n => hQ v H' s ?_⟩
      have e2 : ten e = (((10 : Int) ^ e.toNat : Int) : Rat) := by
        unfold ten
        rw [if_neg c]
      rw [e2]
      exact n
def sp_by_ten (K : PySem.W.Frag) : Sp := fun vs H Q _ => ∃ (x : V) (e : Int), vs = [x, .int e] ∧ NumV (CN K) H x 1 ∧ -60 ≤ e ∧ e ≤ 60 ∧ ∀ v H', Same H H' → NumV (CN K) H' v (ten e) → Q v H'
theorem sc_by_ten : FnScope ["number", "power"] ["number", "power"] (defScope s_by_ten) := ⟨rfl, rfl, rfl, by decide +kernel, rfl, by decide +kernel, by decide +kernel⟩
theorem ok_by_ten (T : Tx w K mg) : DefOk P w K mg base "by_ten" 4 [] (sp_by_ten K) := by
  obtain ⟨fd, F⟩ := T.q_by_ten
  refine DefOk.of (ps := ["number", "power"]) F T.g_by_ten (fun _ _ _ _ _ _ us hl => match us, hl with | [_, _], _ => rfl) (FunD.ok0 F sc_by_ten (fun vs H Q E h => ?_) (fun cdv A outer s H vs Q E hr h => ?_))
  · obtain ⟨x, e, rfl, _⟩ := h
    rfl
  · obtain ⟨x, e, rfl, hx, h1, h2, hQ⟩ := h
    refine ⟨_, (pss_cons (ps_if (pt_cmpR op_lt (pv 1) pe_int (nomark _)) (pss_one (ps_ret (pe_N2 T (hr.mono (by decide)) (pa_cons (pe_top T (pv 0)) (pa_cons (pe_op op_mulW (pe_bottom T (pv 0)) (pe_d (ok_ten T) (hr.mono (by decide)) (pa_cons (pe_op op_sub pe_int (pv 1)) pa_nil))) pa_nil))))) pss_nil)
      (pss_one (ps_ret (pe_N2 T (hr.mono (by decide)) (pa_cons (pe_op op_mulW (pe_top T (pv 0)) (pe_d (ok_ten T) (hr.mono (by decide)) (pa_cons (pv 1) pa_nil))) (pa_cons (pe_bottom T (pv 0)) pa_nil)))))), ?_⟩
    refine ⟨_, rfl, _, _, rfl, rfl, _, rfl, ?_⟩
    by_cases c : e < 0
    · rw [decide_eq_true c]
      refine iteT ⟨_, rfl, _, hx, _, rfl, _, hx, _, rfl, _, _, rfl, rfl, (-e).toNat, ?_, by omega, _, _, rfl, rfl, ?_, _, _, rfl, ?_, ?_, fun v H' s n => hQ v H' s ?_⟩
      · have : (0 : Int) - e = (((-e).toNat : Nat) : Int) := by omega
        show [V.int ((0 : Int) - e)] = _
        rw [this]
      · exact wide_mul (a := 2) (b := 220) (by show Bd 2 1; unfold Bd; decide) (bd_pow (by omega)) (by decide) (by decide) (by decide)
      · show (0 : Int) < 1 * 10 ^ (-e).toNat
        rw [Int.one_mul]
        exact ipow_pos _
      · show Bd 8001 (1 * 10 ^ (-e).toNat)
        rw [Int.one_mul]
        exact (bd_pow (by omega)).mono (by decide)
      · have e2 : ten e = ((1 : Int) : Rat) / ((1 * (10 : Int) ^ (-e).toNat : Int) : Rat) := by
          unfold ten
          rw [if_pos c, Int.one_mul]
          rfl
        rw [e2]
        exact n
    · rw [decide_eq_false c]
      refine iteF ⟨_, rfl, _, hx, _, rfl, e.toNat, ?_, by omega, _, _, rfl, rfl, ?_, _, rfl, _, hx, _, _, rfl, ?_, ?_, fun v H' s n => hQ v H' s ?_⟩
      · have : e = ((e.toNat : Nat) : Int) := by omega
        show [V.int e] = _
        rw [← this]
      · exact wide_mul (a := 2) (b := 220) (by show Bd 2 1; unfold Bd; decide) (bd_pow (by omega)) (by decide) (by decide) (by decide)
      · decide
      · show Bd 8001 1
        exact Nat.one_lt_two_pow (by decide)
      · have e2 : ten e = ((1 * (10 : Int) ^ e.toNat : Int) : Rat) / ((1 : Int) : Rat) := by
          unfold ten
          rw [if_neg c, Int.one_mul, rat_one]
        rw [e2]
        exact n
theorem log_lt {n : Nat} {i : Int} (h : Bd n i) (hn : n ≤ 1900) : i.natAbs.log2 < 1920 := by
  by_cases h0 : i.natAbs = 0
  · rw [h0]
    decide
  · rw [Nat.log2_lt h0]
    exact Nat.lt_of_lt_of_le h (Nat.pow_le_pow_right (by decide) (by omega))
/-! ### power_of -/
def sp_power_of (K : PySem.W.Frag) : Sp := fun vs H Q _ => ∃ (x : V) (s : Rat), vs = [x] ∧ NumV (CN K) H x s ∧ s ∈ steps11 ∧ ∀ H', Same H H' → Q (.int (pw s)) H'
theorem sc_power_of : FnScope ["number", "top", "found"] ["number"] (defScope s_power_of) := ⟨rfl, rfl, rfl, by decide +kernel, rfl, by decide +kernel, by decide +kernel⟩
theorem ok_power_of (T : Tx w K mg) : DefOk P w K mg base "power_of" 5 [] (sp_power_of K) := by
  obtain ⟨fd, F⟩ := T.q_power_of
  refine DefOk.of (ps := ["number"]) F T.g_power_of (fun _ _ _ _ _ _ us hl => match us, hl with | [_], _ => rfl) (FunD.ok0 F sc_power_of (fun vs H Q E h => ?_) (fun cdv A outer s H vs Q E hr h => ?_))
  · obtain ⟨x, s, rfl, _⟩ := h
    rfl
  · obtain ⟨x, s, rfl, hx, hs, hQ⟩ := h
    refine ⟨_, (pss_cons (ps_set (i := 1) sc_power_of.nd rfl (Or.inl rfl) (pe_callB call_abs (by rfl) T.n_abs (by decide +kernel) (pa_cons (pe_top T (pv 0)) pa_nil)))
      (pss_cons (ps_set (i := 2) sc_power_of.nd rfl (Or.inl rfl) (pe_op op_sub (pe_callB call_len (by rfl) T.n_len (by decide +kernel) (pa_cons (pe_callTy call_str_int (by rfl) T.n_str (by decide +kernel) (pa_cons (pv 1) pa_nil)) pa_nil)) (pe_callB call_len (by rfl) T.n_len (by decide +kernel) (pa_cons (pe_callTy call_str_int (by rfl) T.n_str (by decide +kernel) (pa_cons (pe_bottom T (pv 0)) pa_nil)) pa_nil))))
      (pss_cons (ps_if (pt_val (pe_M_below T (hr.mono (by decide)) (pe_M_size T (hr.mono (by decide)) (pv 0)) (pa_cons (pe_d (ok_by_ten T) (hr.mono (by decide)) (pa_cons (pe_N1 T (hr.mono (by decide)) (pa_cons pe_int pa_nil)) (pa_cons (pv 2) pa_nil))) pa_nil))) (pss_one (ps_ret (pe_op op_sub (pv 2) pe_int))) pss_nil)
      (pss_one (ps_ret (pv 2)))))), ?_⟩
    obtain ⟨h0, hz, l0, l1, _, _⟩ := steps_ok s hs
    have hn := num_pos h0
    have ha : (if s.num < 0 then -s.num else s.num) = s.num := if_neg (by omega)
    refine ⟨_, rfl, s, hx, _, rfl, ?_⟩
    rw [ha]
    refine ⟨_, rfl, _, rfl, log_lt hz.1 (by decide), _, _, rfl, ⟨by rw [sizeLine_eq]; exact Nat.le_trans (int_text_len_1921 (log_lt hz.1 (by decide))) (by decide), rfl⟩, _, rfl, s, hx, _, rfl, log_lt hz.2 (by decide), _, _, rfl, ⟨by rw [sizeLine_eq]; exact Nat.le_trans (int_text_len_1921 (log_lt hz.2 (by decide))) (by decide), rfl⟩, _, _, rfl, rfl, ?_⟩
    refine ⟨_, rfl, s, hx, _, _, rfl, hx, hz.mono (by decide), Rat.le_of_lt h0, fun v1 H1 s1 n1 => ⟨s, n1, _, rfl, fun v2 H2 s2 n2 => ⟨_, rfl, v2, pw0 s, rfl, n2, by omega, by omega, fun v3 H3 s3 n3 => ?_⟩⟩⟩
    refine ⟨_, _, _, _, rfl, (n1.same s2).same s3, n3, hz.mono (by decide), (sz_ten (by omega) (by omega)).mono (by decide), _, rfl, ?_⟩
    have s13 := (s1.trans s2).trans s3
    unfold pw at hQ
    by_cases c : s < ten (pw0 s)
    · rw [if_pos c] at hQ
      rw [decide_eq_true c]
      exact iteT ⟨_, rfl, _, _, rfl, rfl, hQ H3 s13⟩
    · rw [if_neg c] at hQ
      rw [decide_eq_false c]
      exact iteF ⟨_, rfl, hQ H3 s13⟩
/-! ### leads_back -/
theorem lead_eq {x s : Rat} {k : Int} (h0 : 0 < s) : decide (s * (cnt .heven (x / s) : Rat) = (k : Rat) * s) = decide (cnt .heven (x / s) = k) := by
  have e0 : s ≠ 0 := fun e => by rw [e] at h0; exact absurd h0 (by decide)
  apply decide_eq_decide.mpr
  constructor
  · intro h
    have h2 : (cnt .heven (x / s) : Rat) = (k : Rat) := by grind
    exact Rat.intCast_inj.mp h2
  · intro h
    rw [h]
    grind
def sp_leads (K : PySem.W.Frag) : Sp := fun vs H Q _ => ∃ (x y z : V) (p s : Rat) (k : Int), vs = [x, y, z] ∧ NumV (CN K) H x p ∧ NumV (CN K) H y ((k : Rat) * s) ∧ NumV (CN K) H z s ∧ Sz 1000 p ∧ Sz 1000 s ∧ 0 < s ∧ ∀ H', Same H H' → Q (.bl (decide (cnt .heven (p / s) = k))) H'
theorem sc_leads_back : FnScope ["number", "kept", "step"] ["number", "kept", "step"] (defScope s_leads_back) := ⟨rfl, rfl, rfl, by decide +kernel, rfl, by decide +kernel, by decide +kernel⟩
theorem ok_leads_back (T : Tx w K mg) : DefOk P w K mg base "leads_back" 8 [] (sp_leads K) := by
  obtain ⟨fd, F⟩ := T.q_leads_back
  refine DefOk.of (ps := ["number", "kept", "step"]) F T.g_leads_back (fun _ _ _ _ _ _ us hl => match us, hl with | [_, _, _], _ => rfl) (FunD.ok0 F sc_leads_back (fun vs H Q E h => ?_) (fun cdv A outer s H vs Q E hr h => ?_))
  · obtain ⟨x, y, z, p, s, k, rfl, _⟩ := h
    rfl
  · obtain ⟨x, y, z, p, q, k, rfl, hx, hy, hz, sp, sq, h0, hQ⟩ := h
    refine ⟨_, (pss_one (ps_ret (pe_cmpR (op_eqN T (hr.mono (by decide))) (pe_d (ok_rounded T) (hr.mono (by decide)) (pa_cons (pv 0) (pa_cons (pv 2) pa_nil))) (pv 1) (nomark _)))), ?_⟩
    refine ⟨_, rfl, _, rfl, _, _, p, q, .heven, rfl, hx, hz, sp, sq, h0, fun v1 H1 s1 n1 => ⟨_, rfl, _, _, n1, hy.same s1, ?_⟩⟩
    show Q (.bl (decide (q * (cnt .heven (p / q) : Rat) = (k : Rat) * q))) H1
    rw [lead_eq h0]
    exact hQ H1 s1
/-! ### counts_near -/
def cands (k : Int) (s : Rat) (p : Nat) : List Int := if isI (moved k s p) = true then [(moved k s p).floor] else [(moved k s p).floor, (moved k s p).floor + 1]
theorem near_eq (k : Int) (s : Rat) (p : Nat) : near k s p = (cands k s p).filter fun c => back c p k s := rfl
theorem cands_len (k : Int) (s : Rat) (p : Nat) : (cands k s p).length ≤ 2 := by
  unfold cands
  split <;> simp
theorem is_floor {x : Rat} : decide (x = (x.floor : Rat)) = isI x := by
  unfold isI
  exact decide_eq_decide.mpr ⟨Eq.symm, Eq.symm⟩
theorem filter_take {α : Type} {f : α → Bool} {l : List α} {i : Nat} {x : α} (h : l[i]? = some x) : (l.take (i + 1)).filter f = (l.take i).filter f ++ (if f x = true then [x] else []) := by
  rw [List.take_add_one, h, List.filter_append]
  congr 1
  cases c : f x <;> simp [c]
def sp_counts_near (K : PySem.W.Frag) : Sp := fun vs H Q _ => ∃ (x y : V) (k : Int) (s : Rat) (p : Nat), vs = [x, y, .int p] ∧ NumV (CN K) H x ((k : Rat) * s) ∧ NumV (CN K) H y s ∧ Sz 100 ((k : Rat) * s) ∧ Sz 50 s ∧ 0 < s ∧ p ≤ 40 ∧
  ∀ D l H', H D = none → Same H H' → H' D = some (.lst (intL l)) → (l = near k s p ∨ l = (near k s p).reverse) → Q (.ref D) H'
theorem sc_counts_near : FnScope ["kept", "step", "places", "moved", "low", "near", "good", "count"] ["kept", "step", "places"] (defScope s_counts_near) := ⟨rfl, rfl, rfl, by decide +kernel, rfl, by decide +kernel, by decide +kernel⟩
theorem ok_counts_near (T : Tx w K mg) : DefOk P w K mg base "counts_near" 9 [] (sp_counts_near K) := by
  obtain ⟨fd, F⟩ := T.q_counts_near
  refine DefOk.of (ps := ["kept", "step", "places"]) F T.g_counts_near (fun _ _ _ _ _ _ us hl => match us, hl with | [_, _, _], _ => rfl) (FunD.ok0 F sc_counts_near (fun vs H Q E h => ?_) (fun cdv A outer s H vs Q E hr h => ?_))
  · obtain ⟨x, y, k, s, p, rfl, _⟩ := h
    rfl
  · obtain ⟨x, y, k, q, p, rfl, hx, hy, sx, sy, h0, hp, hQ⟩ := h
    refine ⟨_, (pss_cons (ps_set (i := 3) sc_counts_near.nd rfl (Or.inl rfl) (pe_M_times T (hr.mono (by decide)) (pv 0) (pa_cons (pe_d (ok_ten_to T) (hr.mono (by decide)) (pa_cons (pv 2) pa_nil)) pa_nil)))
      (pss_cons (ps_set (i := 4) sc_counts_near.nd rfl (Or.inl rfl) (pe_M_floor T (hr.mono (by decide)) (pv 3)))
      (pss_cons (ps_set (i := 5) sc_counts_near.nd rfl (Or.inl rfl) (pe_mo (pe_ifExp (pt_cmpR (op_eqN T (hr.mono (by decide))) (pv 3) (pe_N1 T (hr.mono (by decide)) (pa_cons (pv 4) pa_nil)) (nomark _)) (pe_lst (pa_cons (pv 4) pa_nil)) (pe_lst (pa_cons (pv 4) (pa_cons (pe_op op_add (pv 4) pe_int) pa_nil))))))
      (pss_cons (ps_setLc (i := 6) (own := [("count", 7)]) (by rfl) sc_counts_near.nd rfl rfl (sw_true rfl rfl rfl (by decide +kernel)) (pi_list (pv 5)) (blkOk_by (N := ["kept", "step", "places", "moved", "low", "near", "good", "count"]) (sc := defScope s_counts_near) (by decide +kernel)) (fun _ _ _ _ _ => (pg_name (i := 7) sc_counts_near.nd rfl (Or.inl rfl))) (fun _ _ _ _ _ => (pts_one (pt_val (pe_d (ok_leads_back T) (hr.mono (by decide)) (pa_cons (pe_M_timesK (K0 := K) (by rfl) T (hr.mono (by decide)) (pe_d (ok_ten_to T) (hr.mono (by decide)) (pa_cons (pe_un un_neg (pv 2)) pa_nil)) (pa_cons (pe_N1K (K0 := K) (by rfl) T (hr.mono (by decide)) (pa_cons (pv 7) pa_nil)) pa_nil)) (pa_cons (pv 0) (pa_cons (pv 1) pa_nil))))))) (fun _ _ _ _ _ => (pv 7)))
      (pss_cons (ps_if (PW.pt (pw_and (pt_cmpR op_eq (pe_callB call_len_seq (by rfl) T.n_len (by decide +kernel) (pa_cons (pv 6) pa_nil)) pe_int (nomark _)) (pw_and1 (pt_val (pe_M_below T (hr.mono (by decide)) (pe_M_less T (hr.mono (by decide)) (pe_N1 T (hr.mono (by decide)) (pa_cons (pe_ix ix_list (pv 6) pe_int (fun _ _ => rfl)) pa_nil)) (pa_cons (pv 3) pa_nil)) (pa_cons (pe_M_less T (hr.mono (by decide)) (pv 3) (pa_cons (pe_N1 T (hr.mono (by decide)) (pa_cons (pe_ix ix_list (pv 6) pe_int (fun _ _ => rfl)) pa_nil)) pa_nil)) pa_nil)))))) (pss_one (ps_ret (pe_revL (pv 6)))) pss_nil)
      (pss_one (ps_ret (pv 6)))))))), ?_⟩
    refine ⟨_, rfl, _, hx, _, rfl, (p : Int), rfl, by omega, by omega, fun v1 H1 s1 n1 => ⟨_, _, _, _, rfl, hx.same s1, n1, sx.mono (by decide), (sz_ten (by omega) (by omega)).mono (by decide), fun v2 H2 s2 n2 => ?_⟩⟩
    rw [ten_pos] at n2
    have em : (k : Rat) * q * (((10 : Int) ^ p : Int) : Rat) = moved k q p := rfl
    rw [em] at n2
    have sm : Sz 320 (moved k q p) := by
      have := sx.mul2 (sz_ten (e := (p : Int)) (by omega) (by omega))
      rw [ten_pos, em] at this
      exact this
    have s02 := s1.trans s2
    refine ⟨_, rfl, _, n2, _, _, rfl, n2, sm.mono (by decide), ?_⟩
    have hbd : ∀ c ∈ cands k q p, Bd 322 c := fun c hc => by
      have hf := sm.floor
      have : c = (moved k q p).floor ∨ c = (moved k q p).floor + 1 := by
        unfold cands at hc
        split at hc
        · exact .inl (by simpa using hc)
        · simpa using hc
      rcases this with e | e
      · rw [e]; exact hf.mono (by decide)
      · rw [e]
        exact (hf.add (j := 1) (by unfold Bd; decide)).mono (by decide)
    refine ⟨fun v HN => ∃ N, v = .ref N ∧ Same H HN ∧ NumV (CN K) HN v2 (moved k q p) ∧ HN N = some (.lst (intL (cands k q p))), ?_, ?_⟩
    · refine ⟨_, rfl, _, rfl, _, rfl, fun v3 H3 s3 n3 => ⟨_, _, n2.same s3, n3, _, rfl, ?_⟩⟩
      rw [is_floor]
      cases hb : isI (moved k q p) with
      | true =>
        have ec : cands k q p = [(moved k q p).floor] := by unfold cands; rw [if_pos hb]
        refine iteT ⟨_, rfl, by show 1 ≤ sizeLine; decide, fun N nN => ⟨N, rfl, Same.updOf (s02.trans s3) nN, (n2.same s3).same (Same.upd nN), ?_⟩⟩
        rw [upd_same, ec]
        rfl
      | false =>
        have ec : cands k q p = [(moved k q p).floor, (moved k q p).floor + 1] := by unfold cands; rw [if_neg (by rw [hb]; decide)]
        refine iteF ⟨_, rfl, _, rfl, _, _, rfl, rfl, by show 2 ≤ sizeLine; decide, fun N nN => ⟨N, rfl, Same.updOf (s02.trans s3) nN, (n2.same s3).same (Same.upd nN), ?_⟩⟩
        rw [upd_same, ec]
        rfl
    · rintro v HN ⟨N, rfl, sN, nm, eN⟩
      refine ⟨_, rfl, N, rfl, ⟨_, SqL.of eN⟩, fun D nD => lc_list (K := K) (a := N) (xs := intL (cands k q p)) (fun i H' => Same HN H' ∧ H' D = some (.lst (intL (((cands k q p).take i).filter fun c => back c p k q))))
        ⟨Same.upd nD, upd_same⟩ (fun i H' _ ⟨s3, _⟩ => SqL.of (s3 _ _ eN)) ?_ ?_⟩
      · rintro i r H' hi ⟨s3, hD⟩
        obtain ⟨c, hc, rfl⟩ : ∃ c, (cands k q p)[i]? = some c ∧ r = .int c := by
          unfold intL at hi
          rw [List.getElem?_map] at hi
          cases e : (cands k q p)[i]? with
          | none => rw [e] at hi; cases hi
          | some c => rw [e] at hi; exact ⟨c, rfl, (Option.some.inj hi).symm⟩
        have hcb := hbd c (List.mem_of_getElem? hc)
        have ht := sz_ten (e := -(p : Int)) (by omega) (by omega)
        have hcs := Sz.int hcb (by decide)
        have s0 := sN.trans s3
        refine ⟨rfl, _, rfl, (p : Int), rfl, -(p : Int), rfl, by omega, by omega, fun v4 H4 s4 n4 => ⟨_, n4, _, rfl, _, rfl, fun v5 H5 s5 n5 => ⟨_, _, _, _, rfl, n4.same s5, n5, ht.mono (by decide), hcs.mono (by decide), fun v6 H6 s6 n6 => ?_⟩⟩⟩
        have s06 := ((s0.trans s4).trans s5).trans s6
        have s36 := ((s3.trans s4).trans s5).trans s6
        refine ⟨_, rfl, _, rfl, v6, x, y, _, q, k, rfl, n6, hx.same s06, hy.same s06, (ht.mul2 hcs).mono (by decide), sy.mono (by decide), h0, fun H7 s7 => ⟨_, rfl, ?_⟩⟩
        rw [ten_neg, back_x]
        have eb : decide (cnt .heven (ratio c p q) = k) = back c p k q := rfl
        rw [eb]
        have ef := filter_take (f := fun c => back c p k q) hc
        have hD7 : H7 D = some (.lst (intL (((cands k q p).take i).filter fun c => back c p k q))) := (((s4.trans s5).trans s6).trans s7) _ _ hD
        cases hbk : back c p k q with
        | true =>
          refine iteT ⟨_, rfl, _, hD7, ?_, ?_, ?_⟩
          · unfold intL
            rw [List.length_map]
            have h1 := List.length_filter_le (fun c => back c p k q) ((cands k q p).take i)
            have h2 := cands_len k q p
            rw [List.length_take] at h1
            rw [sizeLine_eq]
            omega
          · intro b o e
            rw [upd_ne (ne_of_none e nD)]
            exact (s36.trans s7) _ _ e
          · rw [upd_same, ef]
            simp only [hbk, if_true]
            unfold intL
            rw [List.map_append]
            rfl
        | false =>
          refine iteF ⟨s36.trans s7, ?_⟩
          rw [ef]
          simp only [hbk]
          rw [hD7]
          simp
      · rintro H3 ⟨s3, hD⟩
        have elen : (intL (cands k q p)).length = (cands k q p).length := by unfold intL; rw [List.length_map]
        rw [elen, List.take_length, ← near_eq] at hD
        have nD0 : H D = none := sN.free nD
        have s03 := sN.trans s3
        have hbn : ∀ c ∈ near k q p, Sz 400 (c : Rat) := fun c hc => (Sz.int (hbd c (List.mem_filter.mp (by rw [near_eq] at hc; exact hc)).1) (by decide)).mono (by decide)
        refine ⟨_, rfl, D, _, rfl, .inl (SqL.of hD), rfl, _, rfl, ?_⟩
        by_cases c2 : (intL (near k q p)).length = 2
        · rw [decide_eq_true (show V.int ((intL (near k q p)).length : Int) = V.int 2 by rw [c2]; rfl)]
          refine iteT ?_
          obtain ⟨l0, l1, el⟩ : ∃ l0 l1, near k q p = [l0, l1] := by
            unfold intL at c2
            rw [List.length_map] at c2
            match hl : near k q p, c2 with
            | [a, b], _ => exact ⟨a, b, rfl⟩
          have z0 := hbn l0 (by rw [el]; simp)
          have z1 := hbn l1 (by rw [el]; simp)
          have nm3 := nm.same s3
          have hD' : H3 D = some (.lst [.int l0, .int l1]) := by rw [hD, el]; rfl
          refine ⟨_, rfl, D, _, _, _, rfl, rfl, SqL.of hD', atI_nat (j := 1) rfl, _, rfl, fun v4 H4 s4 n4 => ⟨_, n4, _, rfl, _, _, _, _, rfl, n4, nm3.same s4, z1.mono (by decide), sm.mono (by decide), fun v5 H5 s5 n5 => ?_⟩⟩
          refine ⟨_, n5, _, rfl, _, (nm3.same s4).same s5, _, rfl, D, _, _, _, rfl, rfl, SqL.of ((s4.trans s5) _ _ hD'), atI_nat (j := 0) rfl, _, rfl, fun v6 H6 s6 n6 => ⟨_, _, _, _, rfl, ((nm3.same s4).same s5).same s6, n6, sm.mono (by decide), z0.mono (by decide), fun v7 H7 s7 n7 => ?_⟩⟩
          refine ⟨_, _, _, _, rfl, (n5.same s6).same s7, n7, (z1.sub (sm.mono (show 320 ≤ 400 by decide))).mono (by decide), ((sm.mono (show 320 ≤ 400 by decide)).sub z0).mono (by decide), _, rfl, ?_⟩
          have s37 := ((s4.trans s5).trans s6).trans s7
          have hD7 := s37 _ _ hD'
          cases hcc : decide ((l1 : Rat) - moved k q p < moved k q p - (l0 : Rat)) with
          | true =>
            refine iteT ⟨_, rfl, D, _, rfl, SqL.of hD7, fun R nR => hQ R [l1, l0] _ ?_ (Same.updOf (s03.trans s37) nR) upd_same (.inr (by rw [el]; rfl))⟩
            exact (s03.trans s37).free nR
          | false => exact iteF ⟨_, rfl, hQ D [l0, l1] H7 nD0 (s03.trans s37) hD7 (.inl el.symm)⟩
        · rw [decide_eq_false (show ¬ V.int ((intL (near k q p)).length : Int) = V.int 2 from fun z => c2 (by injection z with z; omega))]
          refine iteF ?_
          exact ⟨_, rfl, hQ D _ H3 nD0 s03 hD (.inl rfl)⟩
/-! ### shortest -/
/-- at a stands a paper of the kept number k steps -/
def ShortAt (H : Hp) (a : Addr) (k : Int) (s : Rat) : Prop := ∃ (c : Int) (p : Nat), Short k s c p ∧
  ((p = 0 ∧ H a = some (.tup [.int c, .int (p : Int), .non])) ∨ (0 < p ∧ ∃ b, H a = some (.tup [.int c, .int (p : Int), .ref b]) ∧ H b = some (.tup [.int (moved k s (p - 1)).floor, .int ((moved k s (p - 1)).floor + 1)])))
def sp_shortest (K : PySem.W.Frag) : Sp := fun vs H Q _ => ∃ (x y : V) (k : Int) (s : Rat), vs = [x, y] ∧ NumV (CN K) H x ((k : Rat) * s) ∧ NumV (CN K) H y s ∧ Sz 100 ((k : Rat) * s) ∧ s ∈ steps11 ∧
  ∀ a H', Same H H' → ShortAt H' a k s → Q (.ref a) H'
theorem near_mem {k : Int} {s : Rat} {p : Nat} {l : List Int} {c : Int} {r : List Int} (h : l = near k s p ∨ l = (near k s p).reverse) (e : l = c :: r) : c ∈ near k s p := by
  rcases h with h | h
  · rw [← h, e]; simp
  · have : c ∈ (near k s p).reverse := by rw [← h, e]; simp
    simpa using this
theorem near_emp {k : Int} {s : Rat} {p : Nat} {l : List Int} (h : l = near k s p ∨ l = (near k s p).reverse) (e : l = []) : near k s p = [] := by
  rcases h with h | h
  · rw [← h, e]
  · rw [e] at h
    exact List.reverse_eq_nil_iff.mp h.symm
theorem sc_shortest : FnScope ["number", "step", "places", "near", "first", "others", "low"] ["number", "step"] (defScope s_shortest) := ⟨rfl, rfl, rfl, by decide +kernel, rfl, by decide +kernel, by decide +kernel⟩
theorem ok_shortest (T : Tx w K mg) : DefOk P w K mg base "shortest" 10 [] (sp_shortest K) := by
  obtain ⟨fd, F⟩ := T.q_shortest
  refine DefOk.of (ps := ["number", "step"]) F T.g_shortest (fun _ _ _ _ _ _ us hl => match us, hl with | [_, _], _ => rfl) (FunD.ok0 F sc_shortest (fun vs H Q E h => ?_) (fun cdv A outer s H vs Q E hr h => ?_))
  · obtain ⟨x, y, k, s, rfl, _⟩ := h
    rfl
  · obtain ⟨x, y, k, q, rfl, hx, hy, sx, hs, hQ⟩ := h
    obtain ⟨h0, sq, _, _, hm, _⟩ := steps_ok q hs
    refine ⟨_, (pss_cons (ps_set (i := 2) sc_shortest.nd rfl (Or.inl rfl) pe_int)
      (pss_cons (ps_set (i := 3) sc_shortest.nd rfl (Or.inl rfl) (pe_d (ok_counts_near T) (hr.mono (by decide)) (pa_cons (pv 0) (pa_cons (pv 1) (pa_cons (pv 2) pa_nil)))))
      (pss_cons (ps_while PassesOwn.never (pt_cmpR (op_eqE (hr.mono (by decide))) (pv 3) (pe_lst pa_nil) (nomark _)) (pss_cons (ps_aug (i := 2) sc_shortest.nd rfl (Or.inl rfl) pe_int ip_add)
      (pss_one (ps_set (i := 3) sc_shortest.nd rfl (Or.inl rfl) (pe_d (ok_counts_near T) (hr.mono (by decide)) (pa_cons (pv 0) (pa_cons (pv 1) (pa_cons (pv 2) pa_nil))))))))
      (pss_cons (ps_asg (pv 3) (pg_star (by rfl) (pg_name (i := 4) sc_shortest.nd rfl (Or.inl rfl)) (pg_name (i := 5) sc_shortest.nd rfl (Or.inl rfl))))
      (pss_cons (ps_if (pt_cmpR op_eq (pv 2) pe_int (nomark _)) (pss_one (ps_ret (pe_tup (pa_cons (pv 4) (pa_cons (pv 2) (pa_cons pe_non pa_nil)))))) pss_nil)
      (pss_cons (ps_set (i := 6) sc_shortest.nd rfl (Or.inl rfl) (pe_M_floor T (hr.mono (by decide)) (pe_M_times T (hr.mono (by decide)) (pv 0) (pa_cons (pe_d (ok_ten_to T) (hr.mono (by decide)) (pa_cons (pe_op op_sub (pv 2) pe_int) pa_nil)) pa_nil))))
      (pss_one (ps_ret (pe_tup (pa_cons (pv 4) (pa_cons (pv 2) (pa_cons (pe_tup (pa_cons (pv 6) (pa_cons (pe_op op_add (pv 6) pe_int) pa_nil))) pa_nil)))))))))))), ?_⟩
    refine ⟨_, rfl, _, rfl, _, rfl, x, y, k, q, 0, rfl, hx, hy, sx, sq.mono (by decide), h0, by decide, fun D l H1 nD s1 hD hl => ?_⟩
    refine while_by (fun σ H' => ∃ (p : Nat) (D : Addr) (l : List Int), σ = [some x, some y, some (.int (p : Int)), some (.ref D), none, none, none] ∧ Same H H' ∧ H' D = some (.lst (intL l)) ∧ (l = near k q p ∨ l = (near k q p).reverse) ∧ p ≤ mp q ∧ (0 < p → near k q (p - 1) = []))
      (fun σ H' => match σ with | _ :: _ :: some (.int p) :: _ => (100 - p).toNat | _ => 0)
      ⟨0, D, l, rfl, s1, hD, hl, Nat.zero_le _, fun z => absurd z (by decide)⟩ ?_ ?_
    · rintro σ H2 ⟨p, D, l, rfl, s2, hD, hl, hp, hpr⟩
      refine ⟨_, rfl, by show 0 ≤ sizeLine; decide, fun E nE => ⟨D, E, l, rfl, rfl, Same.upd nE _ _ hD, upd_same, _, rfl, ?_⟩⟩
      have s3 := Same.updOf (o := .lst []) s2 nE
      cases hle : l with
      | nil =>
        have hn := near_emp hl hle
        have hmp := short_more hs hn
        refine iteT ?_
        have e1 : (p : Int) + 1 = ((p + 1 : Nat) : Int) := by omega
        refine ⟨_, rfl, _, _, rfl, rfl, ?_⟩
        refine ⟨_, rfl, _, rfl, _, rfl, x, y, k, q, p + 1, ?_, hx.same s3, hy.same s3, sx, sq.mono (by decide), h0, by omega, fun D' l' H4 nD' s4 hD' hl' => ?_⟩
        · show ([x, y, V.int ((p : Int) + 1)] : List V) = _
          rw [e1]
        refine ⟨⟨p + 1, D', l', ?_, s3.trans s4, hD', hl', hmp, fun _ => hn⟩, ?_⟩
        · show ([some x, some y, some (V.int ((p : Int) + 1)), some (V.ref D'), none, none, none] : List (Option V)) = _
          rw [e1]
        · show (100 - ((p : Int) + 1)).toNat < (100 - (p : Int)).toNat
          omega
      | cons c r =>
        refine iteF ?_
        have hD3 : (upd H2 E (.lst [])) D = some (.lst (.int c :: intL r)) := by
          rw [Same.upd nE _ _ hD, hle]
          rfl
        have hlen : (intL r).length ≤ 1000 := by
          have h1 : l.length ≤ 2 := by
            have h2 : (near k q p).length ≤ 2 := Nat.le_trans (List.length_filter_le _ _) (cands_len k q p)
            rcases hl with h | h
            · rw [h]; exact h2
            · rw [h, List.length_reverse]; exact h2
          rw [hle] at h1
          unfold intL
          rw [List.length_map]
          simp at h1
          omega
        have hmem := near_mem hl hle
        have hsh : Short k q c p := ⟨hmem, hp, hpr⟩
        refine ⟨_, rfl, D, _, _, rfl, SqL.of hD3, hlen, fun O nO => ?_⟩
        have s4 := Same.updOf (o := .lst (intL r)) s3 nO
        refine ⟨_, rfl, rfl, _, rfl, ?_⟩
        by_cases c0 : p = 0
        · subst c0
          refine iteT ?_
          refine ⟨_, rfl, _, rfl, by show 3 ≤ sizeLine; decide, fun a na => ?_⟩
          exact hQ a _ (Same.updOf s4 na) ⟨c, 0, hsh, .inl ⟨rfl, upd_same⟩⟩
        · rw [decide_eq_false (show ¬ V.int (p : Int) = V.int 0 from fun z => c0 (by injection z with z; omega))]
          refine iteF ?_
          have e2 : (p : Int) - 1 = ((p - 1 : Nat) : Int) := by omega
          refine ⟨_, rfl, _, hx.same s4, _, rfl, _, _, rfl, rfl, (p : Int) - 1, rfl, by omega, by omega, fun v5 H5 s5 n5 => ⟨_, _, _, _, rfl, (hx.same s4).same s5, n5, sx.mono (by decide), (sz_ten (by omega) (by omega)).mono (by decide), fun v6 H6 s6 n6 => ?_⟩⟩
          rw [e2, ten_pos] at n6
          have em : (k : Rat) * q * (((10 : Int) ^ (p - 1) : Int) : Rat) = moved k q (p - 1) := rfl
          rw [em] at n6
          have sm : Sz 320 (moved k q (p - 1)) := by
            have := sx.mul2 (sz_ten (e := ((p - 1 : Nat) : Int)) (by omega) (by omega))
            rw [ten_pos, em] at this
            exact this
          have s46 := (s4.trans s5).trans s6
          refine ⟨_, n6, _, _, rfl, n6, sm.mono (by decide), ?_⟩
          refine ⟨_, rfl, _, rfl, _, rfl, _, rfl, _, _, rfl, rfl, by show 2 ≤ sizeLine; decide, fun b nb => ⟨by show 3 ≤ sizeLine; decide, fun a na => ?_⟩⟩
          have s7 := Same.updOf (o := .tup [.int (moved k q (p - 1)).floor, .int ((moved k q (p - 1)).floor + 1)]) s46 nb
          have hab : b ≠ a := fun e => by
            rw [← e, upd_same] at na
            cases na
          refine hQ a _ (Same.updOf s7 na) ⟨c, p, hsh, .inr ⟨by omega, b, upd_same, ?_⟩⟩
          rw [upd_ne hab, upd_same]
    · intro σ H' Q1 Q2 hQQ hc
      obtain ⟨v, e1, h1, h2⟩ := hc
      refine ⟨v, e1, h1, fun E nE => ?_⟩
      obtain ⟨a, b, xs, r1, r2, r3, r4, z, r5, r6⟩ := h2 E nE
      exact ⟨a, b, xs, r1, r2, r3, r4, z, r5, hQQ _ _ r6⟩
end
end Fg
set_option Elab.async false
set_option linter.all false
set_option maxRecDepth 100000
set_option maxHeartbeats 4000000
/-! B4: repr of data. -/
namespace Fg
open PySem PySem.Spec PyProof.Rows L2 LamX
/-! ### the text -/
def numR (q : Rat) : Str := ((((Str.empty ++ Str.ofString "Number(") ++ (toString q.num : Str)) ++ Str.ofString ", ") ++ (toString (q.den : Int) : Str)) ++ Str.ofString ")"
mutual
def reprD : D → Str
  | .non => "None"
  | .bl b => if b then ("True" : Str) else ("False" : Str)
  | .int i => (toString i : String)
  | .str x => reprText x
  | .num q => numR q
  | .tup ds => tupleText (reprDs ds)
  | .lst ds => listText (reprDs ds)
  | .dic => "{}"
def reprDs : List D → List Str
  | [] => []
  | d :: r => reprD d :: reprDs r
end
mutual
/-- how deep -/
def D.dep : D → Nat
  | .tup ds => D.deps ds + 1
  | .lst ds => D.deps ds + 1
  | _ => 0
def D.deps : List D → Nat
  | [] => 0
  | d :: r => max (D.dep d) (D.deps r)
end
mutual
/-- the ints of n bits at most, the signs of texts small -/
def Fine (n : Nat) : D → Prop
  | .int i => Bd n i
  | .num q => Sz n q
  | .str x => ∀ c ∈ x.cps.toList, c < 16 ^ 8
  | .tup ds => Fines n ds
  | .lst ds => Fines n ds
  | _ => True
def Fines (n : Nat) : List D → Prop
  | [] => True
  | d :: r => Fine n d ∧ Fines n r
end
mutual
/-- room for the text -/
def D.wt : D → Nat
  | .int _ => 2000
  | .num _ => 4000
  | .str x => 10 * x.length + 2
  | .tup ds => 5 + D.wts ds
  | .lst ds => 5 + D.wts ds
  | _ => 10
def D.wts : List D → Nat
  | [] => 0
  | d :: r => D.wt d + 2 + D.wts r
end
theorem bd_log {n : Nat} {i : Int} (h : Bd n i) (hn : n ≤ 1900) : i.natAbs.log2 < 1920 := by
  by_cases h0 : i.natAbs = 0
  · rw [h0]
    decide
  · rw [Nat.log2_lt h0]
    refine Nat.lt_of_lt_of_le h (Nat.pow_le_pow_right (by decide) (by omega))
theorem num_txt {n : Nat} {q : Rat} (h : Sz n q) (hn : n ≤ 1900) : (numR q).length ≤ 3900 := by
  have h1 := int_text_len_1921 (bd_log h.1 hn)
  have h2 := int_text_len_1921 (bd_log h.2 hn)
  unfold numR
  simp only [strLen_append]
  have e1 : (Str.ofString "Number(").length = 7 := by decide
  have e2 : (Str.ofString ", ").length = 2 := by decide
  have e3 : (Str.ofString ")").length = 1 := by decide
  have e4 : Str.empty.length = 0 := by decide
  rw [e1, e2, e3, e4]
  have a : ((toString q.num : String) : Str) = Str.ofString (toString q.num) := rfl
  have b : ((toString (q.den : Int) : String) : Str) = Str.ofString (toString (q.den : Int)) := rfl
  rw [a, b]
  omega
theorem piled_text (ts : List Str) : (tupleText ts).length ≤ piled ts + 3 := by
  unfold tupleText
  rw [strLen_append, strLen_append]
  have e1 : ((("(" : String) : Str)).length = 1 := rfl
  have e3 : (((if ts.length == 1 then ",)" else ")" : String) : Str)).length ≤ 2 := by split <;> decide
  rw [e1]
  by_cases h : ts = []
  · subst h
    have : (Str.join ", " []).length = 0 := rfl
    omega
  · have := join_length_add ts h
    omega
theorem list_text (ts : List Str) : (listText ts).length ≤ piled ts + 3 := by
  have h := textFrom_len_le ts 0 "["
  have e : (listText ts).length = (textFrom 0 "[" ts).length + 1 := by
    show (textFrom 0 "[" ts ++ "]").length = _
    rw [strLen_append]; rfl
  have e2 : (("[" : String) : Str).length = 1 := rfl
  have p : ∀ l : List Str, piled l = (l.map (·.length)).sum + 2 * l.length := fun l => by
    induction l with
    | nil => rfl
    | cons a r ih => rw [piled_cons, ih, List.map_cons, List.sum_cons, List.length_cons]; omega
  rw [p]
  omega
mutual
theorem repr_wt {n : Nat} (hn : n ≤ 1900) : ∀ {d : D}, Fine n d → (reprD d).length ≤ D.wt d
  | .non, _ => by unfold reprD D.wt; decide
  | .bl b, _ => by unfold reprD D.wt; cases b <;> decide
  | .dic, _ => by unfold reprD D.wt; decide
  | .int i, h => by
    unfold Fine at h
    unfold reprD D.wt
    exact Nat.le_trans (int_text_len_1921 (bd_log h hn)) (by decide)
  | .num q, h => by
    unfold Fine at h
    unfold reprD D.wt
    exact Nat.le_trans (num_txt h hn) (by decide)
  | .str x, h => by
    unfold Fine at h
    unfold reprD D.wt
    exact StrLaws.reprText_len x h
  | .tup ds, h => by
    unfold Fine at h
    unfold reprD D.wt
    have a := repr_wts hn h
    have b := piled_text (reprDs ds)
    omega
  | .lst ds, h => by
    unfold Fine at h
    unfold reprD D.wt
    have a := repr_wts hn h
    have b := list_text (reprDs ds)
    omega
theorem repr_wts {n : Nat} (hn : n ≤ 1900) : ∀ {ds : List D}, Fines n ds → piled (reprDs ds) ≤ D.wts ds
  | [], _ => by unfold reprDs D.wts; decide
  | d :: r, h => by
    unfold Fines at h
    unfold reprDs D.wts
    have a := repr_wt hn h.1
    have b := repr_wts hn h.2
    rw [piled_cons]
    omega
end
/-! ### one datum at one value -/
section
variable {C : Addr} {M : Addr → Prop} {H : Hp}
mutual
theorem Rep.det : ∀ {v : V} {d e : D}, Rep C M H v d → Rep C M H v e → d = e
  | v, .non, e, h, h2 => by
    unfold Rep at h
    subst h
    cases e <;> unfold Rep at h2 <;> first | rfl | (obtain ⟨a, h3, _⟩ := h2; cases h3; done) | (obtain ⟨a, b, h3, _⟩ := h2; cases h3; done) | (cases h2; done)
  | v, .bl b, e, h, h2 => by
    unfold Rep at h
    subst h
    cases e <;> unfold Rep at h2 <;> first | (obtain ⟨a, h3, _⟩ := h2; cases h3; done) | (obtain ⟨a, b, h3, _⟩ := h2; cases h3; done) | (cases h2; rfl) | (cases h2; done)
  | v, .int b, e, h, h2 => by
    unfold Rep at h
    subst h
    cases e <;> unfold Rep at h2 <;> first | (obtain ⟨a, h3, _⟩ := h2; cases h3; done) | (obtain ⟨a, b, h3, _⟩ := h2; cases h3; done) | (cases h2; rfl) | (cases h2; done)
  | v, .str b, e, h, h2 => by
    unfold Rep at h
    subst h
    cases e <;> unfold Rep at h2 <;> first | (obtain ⟨a, h3, _⟩ := h2; cases h3; done) | (obtain ⟨a, b, h3, _⟩ := h2; cases h3; done) | (cases h2; rfl) | (cases h2; done)
  | v, .num q, e, h, h2 => by
    unfold Rep at h
    cases e with
    | num p =>
      unfold Rep at h2
      rw [NumV.inj h h2]
    | tup ds =>
      obtain ⟨a, rfl, dx, ea⟩ := h
      unfold Rep at h2
      obtain ⟨b, vs, e1, e2, _⟩ := h2
      cases e1
      rw [ea] at e2
      cases e2
    | lst ds =>
      obtain ⟨a, rfl, dx, ea⟩ := h
      unfold Rep at h2
      obtain ⟨b, vs, e1, _, e2, _⟩ := h2
      cases e1
      rw [ea] at e2
      cases e2
    | dic =>
      obtain ⟨a, rfl, dx, ea⟩ := h
      unfold Rep at h2
      obtain ⟨b, e1, e2⟩ := h2
      cases e1
      rw [ea] at e2
      cases e2
    | _ =>
      obtain ⟨a, rfl, dx, ea⟩ := h
      unfold Rep at h2
      cases h2
  | v, .tup ds, e, h, h2 => by
    unfold Rep at h
    obtain ⟨a, vs, rfl, ea, hr⟩ := h
    cases e with
    | tup es =>
      unfold Rep at h2
      obtain ⟨b, ws, e1, e2, hr2⟩ := h2
      cases e1
      rw [ea] at e2
      cases e2
      rw [Reps.det hr hr2]
    | num q =>
      unfold Rep at h2
      obtain ⟨b, e1, dx, e2⟩ := h2
      cases e1
      rw [ea] at e2
      cases e2
    | lst es =>
      unfold Rep at h2
      obtain ⟨b, ws, e1, _, e2, _⟩ := h2
      cases e1
      rw [ea] at e2
      cases e2
    | dic =>
      unfold Rep at h2
      obtain ⟨b, e1, e2⟩ := h2
      cases e1
      rw [ea] at e2
      cases e2
    | _ =>
      unfold Rep at h2
      cases h2
  | v, .lst ds, e, h, h2 => by
    unfold Rep at h
    obtain ⟨a, vs, rfl, _, ea, hr⟩ := h
    cases e with
    | lst es =>
      unfold Rep at h2
      obtain ⟨b, ws, e1, _, e2, hr2⟩ := h2
      cases e1
      rw [ea] at e2
      cases e2
      rw [Reps.det hr hr2]
    | num q =>
      unfold Rep at h2
      obtain ⟨b, e1, dx, e2⟩ := h2
      cases e1
      rw [ea] at e2
      cases e2
    | tup es =>
      unfold Rep at h2
      obtain ⟨b, ws, e1, e2, _⟩ := h2
      cases e1
      rw [ea] at e2
      cases e2
    | dic =>
      unfold Rep at h2
      obtain ⟨b, e1, e2⟩ := h2
      cases e1
      rw [ea] at e2
      cases e2
    | _ =>
      unfold Rep at h2
      cases h2
  | v, .dic, e, h, h2 => by
    unfold Rep at h
    obtain ⟨a, rfl, ea⟩ := h
    cases e with
    | dic => rfl
    | num q =>
      unfold Rep at h2
      obtain ⟨b, e1, dx, e2⟩ := h2
      cases e1
      rw [ea] at e2
      cases e2
    | tup es =>
      unfold Rep at h2
      obtain ⟨b, ws, e1, e2, _⟩ := h2
      cases e1
      rw [ea] at e2
      cases e2
    | lst es =>
      unfold Rep at h2
      obtain ⟨b, ws, e1, _, e2, _⟩ := h2
      cases e1
      rw [ea] at e2
      cases e2
    | _ =>
      unfold Rep at h2
      cases h2
theorem Reps.det : ∀ {vs : List V} {ds es : List D}, Reps C M H vs ds → Reps C M H vs es → ds = es
  | [], [], [], _, _ => rfl
  | v :: vs, d :: ds, e :: es, h, h2 => by
    have a := reps_cons.mp h
    have b := reps_cons.mp h2
    rw [Rep.det a.1 b.1, Reps.det a.2 b.2]
  | [], [], _ :: _, _, h => by unfold Reps at h; exact h.elim
  | [], _ :: _, _, h, _ => by unfold Reps at h; exact h.elim
  | _ :: _, [], _, h, _ => by unfold Reps at h; exact h.elim
  | _ :: _, _ :: _, [], _, h => by unfold Reps at h; exact h.elim
end
end
/-! ### __repr__, __str__ -/
section
variable {P : Program} {w : World} {K : PySem.W.Frag} {mg : Str → Option Value} {base : Heap}
def sp_repr (K : PySem.W.Frag) : Sp := fun vs H Q _ => ∃ (x : V) (q : Rat), vs = [x] ∧ NumV (CN K) H x q ∧ Sz 1900 q ∧ Q (.str (numR q)) H
theorem sc_N_repr : FnScope ["self"] ["self"] (defScope s_N_repr) := ⟨rfl, rfl, rfl, by decide +kernel, rfl, by decide +kernel, by decide +kernel⟩
theorem ok_N_repr (T : Tx w K mg) : MOk P w K mg base "__repr__" 1 (sp_repr K) := by
  obtain ⟨fd, F⟩ := T.q_N_repr
  refine MOk.of (ps := ["self"]) F (fun _ _ _ _ _ _ us hl => match us, hl with | [_], _ => rfl) (FunD.ok0 F sc_N_repr (fun vs H Q E h => ?_) (fun cdv A outer s H vs Q E hr h => ?_))
  · obtain ⟨x, q, rfl, _⟩ := h
    rfl
  · obtain ⟨x, q, rfl, hq, hs, hQ⟩ := h
    refine ⟨_, (pss_one (ps_ret (pe_joined (.cons pe_str (.cons (pe_fmt (pe_top T (pv 0))) (.cons pe_str (.cons (pe_fmt (pe_bottom T (pv 0))) (.cons pe_str .nil)))))))), ?_⟩
    have h1 := int_text_len_1921 (bd_log hs.1 (by decide))
    have h2 := int_text_len_1921 (bd_log hs.2 (by decide))
    refine ⟨_, rfl, ?_, _, rfl, q, hq, .inr ⟨_, rfl, bd_log hs.1 (by decide), _, rfl, ?_, _, rfl, ?_, _, rfl, q, hq, .inr ⟨_, rfl, bd_log hs.2 (by decide), _, rfl, ?_, _, rfl, ?_, hQ⟩⟩⟩
    all_goals
      simp only [strLen_append, sizeLine_eq]
      have e1 : (Str.ofString "Number(").length = 7 := by decide
      have e2 : (Str.ofString ", ").length = 2 := by decide
      have e3 : (Str.ofString ")").length = 1 := by decide
      have e4 : Str.empty.length = 0 := by decide
      omega
end
end Fg
set_option Elab.async false
set_option linter.all false
set_option maxRecDepth 100000
set_option maxHeartbeats 4000000
/-! B5: the walk of repr. -/
namespace PySem.W
open PySem PySem.Spec PySem.Calls PyProof.Rows Builtin
section
variable {prog : Program} {w : World} {A : Around} {E : Value → Shared → Prop} {s : Shared} {K : Frag} {x C f : Addr} {ox : Obj} {od : Option Obj}
theorem fg_under {Q : Value → Shared → Prop} {b : Nat} (hu : A.units < cLine) (X : K.In s.heap) (I : InstAt s.heap x ox C od) (hs : findIn K (.ref C) "__repr__" = some (some (.ref f))) (hf : isFn K (.ref f) = true)
    (h : wpAny (model prog w) A (call (.ref f) [.ref x]) (fun v s' => (∃ y u, v = .str y u) ∧ Q v s') E s) : wpAny (model prog w) A (pyReprObjUnder b (.ref x)) Q E s := by
  unfold pyReprObjUnder pyReprObjBy
  refine wpAny_bind (wpAny_cRoomFor hu ?_)
  refine wpAny_bind (wpAny_bind (I.type.here ((looks_findIn X hs).here ?_)))
  show wpAny _ _ (if (some (Value.ref f)).isNone = true then _ else _) _ _ _
  rw [if_neg (by simp)]
  have key : wpAny (model prog w) A (callSpecialIfBoundBy? (fun g first => match reprUnder? g, first with
      | some twin, [self] => call twin [self, rawInt b]
      | _, _ => call g (first ++ [])) (.ref x) (Str.ofString "__repr__")) (fun r s' => ∃ v, r = some v ∧ (∃ y u, v = .str y u) ∧ Q v s') E s := by
    simp only [callSpecialIfBoundBy?, bindSpecialIfBound?]
    refine wpAny_holding (wpAny_bind (wpAny_bind (wpAny_bind (I.type.here ((looks_findIn X hs).here ?_)))))
    refine wpAny_bind (wpAny_askSetting (wpAny_ite ?_))
    have fin : wpAny (model prog w) A (call (.ref f) ([.ref x] ++ []) >>= fun v => pure (some v)) (fun r s' => ∃ v, r = some v ∧ (∃ y u, v = .str y u) ∧ Q v s') E s := wpAny_bind (wpAny_mono h (fun v s' z => wpAny_pure ⟨v, rfl, z⟩) fun _ _ z => z)
    split
    · exact wpAny_bind ((bind_fn X _ (beq_iff_eq.mp hf)).here (wpAny_pure (by exact fin)))
    · exact wpAny_tryCatch (wpAny_bind ((bind_fn X _ (beq_iff_eq.mp hf)).here (wpAny_pure (by exact fin))))
  refine wpAny_bind (wpAny_mono key (fun r s' z => ?_) fun _ _ y => y)
  obtain ⟨v, rfl, ⟨y, u, rfl⟩, q⟩ := z
  refine wpAny_bind (wpAny_isInstance (T := "str") (b := true) rfl isSubtype_str_str ?_)
  exact wpAny_pure q
end
end PySem.W
namespace Fg
open PySem PySem.Spec PyProof.Rows L2 LamX
/-! ### room for nested reprs -/
structure RoomR (X : Cx) (k : Nat) (A : Around) : Prop where
  fr : A.frames = X.A.frames
  hd : A.handled = none
  dp : A.depth + k + 11 < recursionLimit
  un : A.units + k + 232 < cLine
section
variable {X : Cx} {A : Around} {k : Nat} {M : Addr → Prop} {H : Hp}
theorem RoomR.room (r : RoomR X k A) : Room 2 A := ⟨r.hd, by have := r.dp; omega, by have := r.un; omega⟩
theorem RoomR.mono {j : Nat} (r : RoomR X k A) (h : j ≤ k) : RoomR X j A := ⟨r.fr, r.hd, by have := r.dp; omega, by have := r.un; omega⟩
theorem RoomR.units (r : RoomR X k A) : A.units + 1 < cLine := by have := r.un; omega
theorem RoomR.in1 (r : RoomR X (k + 1) A) : RoomR X k A.in1 := ⟨r.fr, r.hd, by have := r.dp; show A.depth + k + 11 < _; omega, by have := r.un; show A.units + 1 + k + 232 < _; omega⟩
theorem under_guard {id : String} {args : Args} (hw : (Code.builtin id args).weight ≤ 1) (hu : (A.under (.builtin id args)).units = A.units + 1) (r : RoomR X (k + 1) A) : RoomR X k (A.under (.builtin id args)) := by
  have hf : (Code.builtin id args).isFrame = false := rfl
  refine ⟨?_, r.hd, ?_, by have := r.un; rw [hu]; omega⟩
  · have e : (A.under (.builtin id args)).frames = A.frames := by simp [Around.under, Code.envs, hf, pushEnvs]
    rw [e]
    exact r.fr
  · have := r.dp
    show A.depth + (Code.builtin id args).weight + k + 11 < _
    omega
theorem weight_loop (args : Args) : (Code.builtin "list.__repr__.loop" args).weight ≤ 1 := by
  simp [Code.weight, Code.isCreation, Code.isGuard, Code.isCaller, Code.frames, Code.isFrame, guardIds]
theorem weight_tup (args : Args) : (Code.builtin "tuple.__repr__" args).weight ≤ 1 := by
  simp [Code.weight, Code.isCreation, Code.isGuard, Code.isCaller, Code.frames, Code.isFrame, guardIds]
theorem weight_tupU (args : Args) : (Code.builtin "tuple.__repr__.under" args).weight ≤ 1 := by
  simp [Code.weight, Code.isCreation, Code.isGuard, Code.isCaller, Code.frames, Code.isFrame, guardIds]
/-- nothing of such data is under way -/
def GC (X : Cx) (M : Addr → Prop) (H : Hp) (n : Nat) (g : List Code) : Prop := ∀ (b : Addr) (d : D), sizeOf d ≤ n → Rep (CN X.K) M H (.ref b) d → Clear g b
theorem GC.mono {n m : Nat} {g : List Code} (h : GC X M H n g) (hm : m ≤ n) : GC X M H m g := fun b d hd r => h b d (Nat.le_trans hd hm) r
theorem GC.cons {n : Nat} {g : List Code} {a : Addr} {d : D} {id : String} {rest : List Value} {kw : List (Str × Value)} (h : GC X M H n g) (r : Rep (CN X.K) M H (.ref a) d) (hn : n < sizeOf d) : GC X M H n (.builtin id ⟨.ref a :: rest, kw⟩ :: g) := fun b e he re =>
  (h b e he re).cons fun z => by
    rw [← z] at re
    rw [Rep.det re r] at he
    omega
/-- x has the text t -/
def RepI (X : Cx) (M : Addr → Prop) (H : Hp) (k n : Nat) (x : Value) (t : Str) : Prop :=
  ∀ (base : Nat), base + t.length ≤ sizeLine → ∀ (A : Around) (g : List Code) (E : Value → Shared → Prop) (pins : List (Addr × Obj)) (σ : L2.St) (s : Shared) (Q : Str → Shared → Prop), A.guards = some g → GC X M H n g → RoomR X k A → Inv X pins σ H s →
    (∀ s', Inv X pins σ H s' → Q t s') → wpAny (model X.prog X.w) A (pyReprUnder base x) Q E s
theorem RepI.of_is {n : Nat} {x : Value} {t : Str} (h : ReprIs X.prog X.w x t) : RepI X M H k n x t := fun base hb A g E pins σ s Q _ _ _ I hQ => h base hb A E s Q fun tk => hQ _ (I.tok tk)
theorem RepI.mono {j n m : Nat} {x : Value} {t : Str} (h : RepI X M H j m x t) (hj : j ≤ k) (hm : m ≤ n) : RepI X M H k n x t := fun base hb A g E pins σ s Q hg hc hr I hQ => h base hb A g E pins σ s Q hg (hc.mono hm) (hr.mono hj) I hQ
/-- one text for each item -/
inductive RepIs (X : Cx) (M : Addr → Prop) (H : Hp) (k n : Nat) : List V → List Str → Prop
  | nil : RepIs X M H k n [] []
  | cons {v : V} {t : Str} {vs : List V} {ts : List Str} : (∀ u, L2.RelV v u → RepI X M H k n u t) → RepIs X M H k n vs ts → RepIs X M H k n (v :: vs) (t :: ts)
theorem RepIs.len {n : Nat} : ∀ {vs : List V} {ts : List Str}, RepIs X M H k n vs ts → ts.length = vs.length
  | _, _, .nil => rfl
  | _, _, .cons _ h => by simp [h.len]
theorem RepIs.get {n : Nat} : ∀ {vs : List V} {ts : List Str} {i : Nat} {v : V}, RepIs X M H k n vs ts → vs[i]? = some v → ∃ t, ts[i]? = some t ∧ ∀ u, L2.RelV v u → RepI X M H k n u t
  | _, _, _, _, .nil, h => by simp at h
  | _, _, 0, _, .cons a _, h => by
    simp at h
    subst h
    exact ⟨_, rfl, a⟩
  | _, _, i + 1, _, .cons _ r, h => by
    obtain ⟨t, a, b⟩ := r.get (i := i) (by simpa using h)
    exact ⟨t, by simpa using a, b⟩
theorem RepIs.mono {j n m : Nat} : ∀ {vs : List V} {ts : List Str}, RepIs X M H j m vs ts → j ≤ k → m ≤ n → RepIs X M H k n vs ts
  | _, _, .nil, _, _ => .nil
  | _, _, .cons a r, hj, hm => .cons (fun u ru => (a u ru).mono hj hm) (r.mono hj hm)
/-! ### an instance -/
theorem run_rep (T : Tx X.w X.K X.mg) (hA : Room 1 A) (hf : A.frames = X.A.frames) {E : Value → Shared → Prop} {pins : List (Addr × Obj)} {σ : L2.St} {s : Shared} (I : Inv X pins σ H s) {a : Addr} {q : Rat} (ha : NumA (CN X.K) H a q) (hs : Sz 1900 q) :
    wpAny (model X.prog X.w) A (call (.ref (He.ma X.K (CN X.K) "__repr__")) [.ref a]) (fun v s' => (∃ u, v = .str (numR q) u) ∧ Inv X pins σ H s') E s := by
  obtain ⟨fd, ps, b1, F⟩ := ok_N_repr (P := X.prog) (base := X.base) T
  have e := I.env0
  have e0 : Env0 X.prog X.w X.K X.mg X.base A X.stack s H := ⟨by rw [hf]; exact e.frames, e.mod, e.bs, e.bsz, e.funs, e.frf, e.hok, e.bare⟩
  have hsp : sp_repr X.K [.ref a] H (fun v H' => v = .str (numR q) ∧ H' = H) E0 := ⟨_, q, rfl, ⟨a, rfl, ha⟩, hs, rfl, rfl⟩
  have hl := F.len _ _ _ _ hsp
  have r2 : Vals [V.ref a] [Value.ref a] := .cons rfl .nil
  refine wpAny_call (codeAny_mono (F.run A X.stack s H ⟨[.ref a], []⟩ [.ref a] [.ref a] _ E0 hA e0 (by
    have := b1 s [.ref a] I.kIn (by simpa using hl)
    simpa using this) r2 hsp) fun r s' hq => ?_)
  cases r with
  | error e => exact (show False from hq).elim
  | ok fl =>
    cases fl with
    | ret u =>
      obtain ⟨v, H', I', rv, ev, eH⟩ := I.after hq
      subst ev eH
      obtain ⟨t, rfl⟩ := rv
      exact ⟨⟨t, rfl⟩, I'⟩
    | next => exact False.elim hq
    | brk => exact False.elim hq
    | cont => exact False.elim hq
theorem RepI.num (T : Tx X.w X.K X.mg) {n : Nat} {a : Addr} {q : Rat} (ha : NumA (CN X.K) H a q) (hs : Sz 1900 q) : RepI X M H k n (.ref a) (numR q) := by
  intro base hb A g E pins σ s Q hg hc hr I hQ
  obtain ⟨dx, ea⟩ := id ha
  obtain ⟨mA, J, _⟩ := ins_get I.hok ea
  obtain ⟨od, J, _⟩ := J.look
  have Mt := T.m_repr
  refine wpAny_pyReprUnder_ref (by omega) (PySem.W.fg_under (by have := hr.units; omega) I.kIn J Mt.at_ Mt.fn ?_)
  refine wpAny_mono (run_rep (E := E) T (hr.room.mono (by decide)) hr.fr I ha hs) (fun v s' z => ?_) fun _ _ y => y
  obtain ⟨⟨u, rfl⟩, I'⟩ := z
  exact ⟨⟨_, _, rfl⟩, _, _, rfl, hQ _ I'⟩
/-! ### a tuple -/
theorem fold_rep {n0 : Nat} {g : List Code} {E : Value → Shared → Prop} {pins : List (Addr × Obj)} {σ : L2.St} (hg : A.guards = some g) (hc : GC X M H n0 g) (hr : RoomR X k A) :
    ∀ (vs : List V) (l : List Value) (ts : List Str) (acc : Array Str) (n : Nat) (s : Shared) (Q : (Array Str × Nat) → Shared → Prop), RepIs X M H k n0 vs ts → Vals vs l → n + piled ts ≤ sizeLine → Inv X pins σ H s →
    (∀ s', Inv X pins σ H s' → Q ⟨acc ++ ts.toArray, n + piled ts⟩ s') → wpAny (model X.prog X.w) A (forIn l (⟨acc, n⟩ : (Array Str × Nat)) tupBody) Q E s := by
  intro vs
  induction vs with
  | nil =>
    intro l ts acc n s Q hT hv _ I hQ
    cases hT
    cases hv
    simp only [List.forIn_nil]
    exact wpAny_pure (by simpa [piled] using hQ s I)
  | cons v vs ih =>
    intro l ts acc n s Q hT hv hn I hQ
    cases hT with
    | @cons _ t _ ts' ht hts =>
      cases hv with
      | @cons _ u _ us ru rus =>
        rw [piled_cons] at hn
        rw [List.forIn_cons]
        refine wpAny_bind (wpAny_bind (ht u ru (n + 1) (by omega) A g E pins σ s _ hg hc hr I fun s1 I1 => wpAny_pure ?_))
        refine ih us ts' (acc.push t) (n + (t.length + 2)) s1 Q hts rus (by omega) I1 fun s2 I2 => ?_
        have z := hQ s2 I2
        have e : n + piled (t :: ts') = n + (t.length + 2) + piled ts' := by rw [piled_cons]; omega
        rw [e] at z
        simpa using z
theorem own_tup {n0 : Nat} {a : Addr} {d : D} {vs : List V} {ts : List Str} {g : List Code} {pins : List (Addr × Obj)} {σ : L2.St} {s : Shared} {R : Result → Shared → Prop} {base : Nat} {id : String} {rest : List Value}
    (ha : H a = some (.tup vs)) (hd : Rep (CN X.K) M H (.ref a) d) (hn : n0 < sizeOf d) (hT : RepIs X M H k n0 vs ts)
    (hcg : (Code.builtin id ⟨.ref a :: rest, []⟩).isGuard = true) (hcw : (Code.builtin id ⟨.ref a :: rest, []⟩).weight ≤ 1) (hcu : (A.under (.builtin id ⟨.ref a :: rest, []⟩)).units = A.units + 1) (hg : A.guards = some g) (hc : GC X M H (sizeOf d) g) (hr : RoomR X (k + 1) A) (I : Inv X pins σ H s)
    (hR : ∀ s' u, Inv X pins σ H s' → R (.ok (.ret (.str (tupleText ts) u))) s') (hsz : base + (tupleText ts).length ≤ sizeLine) :
    wpOwn (model X.prog X.w) A (.builtin id ⟨.ref a :: rest, []⟩) (Builtin.tupleReprAt base ⟨[.ref a], []⟩) (fun fin s' => match fin with | .done f => R (.ok f) s' | .again c' => c'.quiet = true ∧ codeAny (model X.prog X.w) A c' R s') (fun e s' => R (.error e) s') s := by
  have hp := piled_le_tupleText ts
  obtain ⟨_, its, rv, o, ho, hcl, m, hdt⟩ := I.hok a _ ha
  have hlen : ts.length = its.length := by rw [hT.len, rv.length]
  rw [tuple_repr_tree, tupleReprUnderWay_eq]
  refine wpOwn_bind (wpOwn_stackTailAny hg (tupGuardF_off _) (tupGuardF_pos _) ?_)
  have hno : (g.any fun c => tupGuardF (.ref a) (c, default)) = false := by
    rw [List.any_eq_false]
    intro c hcm
    rw [tupGuardF_of_clear (hc a d (Nat.le_refl _) hd) c hcm]
    exact Bool.false_ne_true
  rw [hno]
  refine wpOwn_of_wpAny ?_
  show wpAny _ _ (tupleReprRest base (.ref a)) _ _ s
  unfold tupleReprRest Builtin.Tuple.tupleItemsOf
  refine wpAny_bind (wpAny_bind (wpAny_seqItems ho hdt (wpAny_pure ?_)))
  rw [← Array.forIn_toList]
  refine wpAny_bind (fold_rep (guards_under_guard hcg hg) ((hc.mono (Nat.le_of_lt hn)).cons hd hn) (under_guard hcw hcu hr) vs _ ts _ _ _ _ hT rv (by omega) I fun s' I' => ?_)
  refine wpAny_bind (wpAny_mkStr (wpAny_pure ?_) (by simpa [tupleText, hlen] using (show (tupleText ts).length ≤ sizeLine by omega)))
  have z := hR _ s'.toks (I'.tok (s'.toks + 1))
  simpa [tupleText, hlen] using z
theorem RepI.tup {n0 : Nat} {a : Addr} {d : D} {vs : List V} {ts : List Str} (ha : H a = some (.tup vs)) (hd : Rep (CN X.K) M H (.ref a) d) (hn : n0 < sizeOf d) (hT : RepIs X M H k n0 vs ts) : RepI X M H (k + 1) (sizeOf d) (.ref a) (tupleText ts) := by
  intro base hb A g E pins σ s Q hg hc hr I hQ
  obtain ⟨_, its, rv, o, ho, hcl, m, hdt⟩ := I.hok a _ ha
  refine wpAny_pyReprUnder_ref (by omega) (wpAny_pyReprObjUnder_twin (twin := "tuple.__repr__.under") ⟨o, ho, hcl⟩ F.slot_tuple_repr rfl (by have := hr.units; omega) ?_)
  refine call_twin_own (F.quiet_tuple_repr_under _) F.entry_tuple_repr_under F.check_tuple_repr_under ⟨o, ho, hcl⟩ F.slot_tuple_repr (F.args_tuple_repr_1 _) ?_
  exact own_tup (R := callEnd _ E) ha hd hn hT (isGuard_tuple_repr_under _) (weight_tupU _) (units_under_tuple_repr_under _ _) hg hc hr I (fun s' u I' => ⟨⟨_, _, rfl⟩, _, _, rfl, hQ s' I'⟩) hb
/-! ### a list -/
theorem loop_rep {n0 : Nat} {a P : Addr} {d : D} {vs : List V} {ts : List Str} {g : List Code} {pins : List (Addr × Obj)} {σ : L2.St} {R : Result → Shared → Prop} {base : Nat}
    (ha : H a = some (.lst vs)) (hd : Rep (CN X.K) M H (.ref a) d) (hn : n0 < sizeOf d) (hT : RepIs X M H k n0 vs ts) (hg : A.guards = some g) (hc : GC X M H n0 g) (hr : RoomR X (k + 1) A) (hsz : base + (listText ts).length ≤ sizeLine)
    (hP : X.s_0.heap.objs.size ≤ P) (hpp : ∀ p ∈ X.pn ++ pins, p.1 ≠ P) (hR : ∀ s' u, Inv X pins σ H s' → R (.ok (.ret (.str (listText ts) u))) s') :
    ∀ (j i : Nat) (s : Shared) (acc : Array Value) (c : Nat) (done : List (Str × Tok)), vs.length - i = j → i ≤ vs.length → Inv X ((P, { cls := .type "list", dict := none, data := .seq acc c, slots := #[] }) :: pins) σ H s → acc.toList = strValues done → done.map (·.1) = ts.take i →
    codeAny (model X.prog X.w) A (.builtin "list.__repr__.loop" ⟨[.ref a, rawInt i, .ref P, rawInt ((base + piled (ts.take i) : Nat) : Int)], []⟩) R s := by
  have hlen := hT.len
  have hX : (listText ts).length = (textFrom 0 "[" ts).length + 1 := by
    show (textFrom 0 "[" ts ++ "]").length = _
    rw [strLen_append]; rfl
  have hL := textFrom_len ts 0 "["
  have hz2 : ∀ t ∈ ts, t.length ≤ sizeLine := fun t ht => by
    have := hL.2.1 t ht
    omega
  have hp3 := piled_le_listText ts
  intro j
  induction j with
  | zero =>
    intro i s acc c done hk hi I hacc hdone
    have hin : i = vs.length := by omega
    obtain ⟨_, its, na, rv, ho⟩ := I.hok a _ ha
    refine codeAny_builtin F.entry_list_repr_loop ?_
    show wpAny _ _ (Builtin.«list.__repr__.loop» ⟨[.ref a, .int i 0, .ref P, .int ((base + piled (ts.take i) : Nat) : Int) 0], []⟩) _ _ s
    rw [repr_loop_tree]
    refine wpAny_bind (wpAny_listItems ho rfl ?_)
    have hnone : its.toArray[(i : Int).toNat]? = none := by simp [hin, rv.length]
    simp only [hnone]
    unfold reprEnd
    refine wpAny_bind (wpAny_listItems (ClX.pin_at I) rfl ?_)
    rw [hacc, repr_fold]
    refine wpAny_bind (wpAny_pure ?_)
    have hall : done.map (·.1) = ts := by rw [hdone, hin, ← hlen, List.take_length]
    rw [hall]
    refine wpAny_bind (wpAny_mkStr (wpAny_pure ?_) (by show (listText ts).length ≤ _; omega))
    exact hR _ _ ((ClX.unpin I).tok _)
  | succ j ih =>
    intro i s acc c done hk hi I hacc hdone
    have hlt : i < vs.length := by omega
    obtain ⟨_, its, na, rv, ho⟩ := I.hok a _ ha
    obtain ⟨t, ht, hrep⟩ := hT.get (i := i) (List.getElem?_eq_getElem hlt)
    obtain ⟨u, hu, ru⟩ := rv.get (List.getElem?_eq_getElem hlt)
    have hp1 := piled_take_succ ht
    have hp2 := piled_take_le ts (i + 1)
    refine codeAny_builtin F.entry_list_repr_loop ?_
    show wpAny _ _ (Builtin.«list.__repr__.loop» ⟨[.ref a, .int i 0, .ref P, .int ((base + piled (ts.take i) : Nat) : Int) 0], []⟩) _ _ s
    rw [repr_loop_tree]
    refine wpAny_bind (wpAny_listItems ho rfl ?_)
    have hsome : its.toArray[(i : Int).toNat]? = some u := by simpa using hu
    simp only [hsome]
    rw [Int.toNat_natCast]
    refine wpAny_bind (wpAny_holding (hrep u ru (base + piled (ts.take i) + 1) (by omega) _ _ _ _ _ s _ (guards_under_guard (isGuard_list_loop _) hg) (hc.cons hd hn) (under_guard (weight_loop _) (units_under_list_loop _ _) hr) I fun s1 I1 => ?_))
    refine wpAny_bind (wpAny_mkStr ?_ (hz2 t (List.mem_of_getElem? ht)))
    refine wpAny_bind ?_
    show wpAny _ _ (updateSeq P _) _ _ _
    have hasz : acc.size ≤ sizeLine := by
      have e1 : acc.toList.length = acc.size := by simp
      have e2 : (strValues done).length = done.length := by simp [strValues]
      have e3 : done.length = (ts.take i).length := by rw [← hdone, List.length_map]
      have e4 : (ts.take i).length ≤ i := by rw [List.length_take]; omega
      have e5 : 2 * ts.length ≤ (textFrom 0 "[" ts).length + 2 := by
        have := hL.1
        simp only [Nat.lt_irrefl, if_false] at this
        omega
      rw [hacc] at e1; omega
    have I2 := I1.tok (s1.toks + 1)
    have gP := ClX.pin_at I2
    refine wpAny_updateSeq gP rfl (wpAny_pure ⟨F.quiet_list_repr_loop _, ?_⟩) hasz
    have e1 : ((i : Int) + 1) = ((i + 1 : Nat) : Int) := by omega
    have e2 : base + piled (ts.take i) + (t.length + 2) = base + piled (ts.take (i + 1)) := by omega
    rw [e1, e2]
    have nH := ClX.pin_un I2
    have pL := (I2.pin _ (List.mem_append_right _ List.mem_cons_self))
    have I3 := (ClX.unpin I2).turned (it := P) (h' := Heap.update s1.heap P (Obj.mapSeq (·.push (.str t s1.toks)))) (t' := s1.toks + 1) (fun b o hb e => (Heap.get?_update_other _ _ (fun h : P = b => hb h.symm)).trans e) nH pL.2.2.1 (.inr hP) (fun x c hx e => by
      obtain ⟨v, o, hco, hdo⟩ := I2.cell x c hx
      rw [e] at hco
      rw [gP] at hco
      cases hco
      cases hdo) hpp
    have I4 : Inv X ((P, Obj.mapSeq (·.push (.str t s1.toks)) { cls := .type "list", dict := none, data := .seq acc c, slots := #[] }) :: pins) σ H { s1 with heap := Heap.update s1.heap P (Obj.mapSeq (·.push (.str t s1.toks))), toks := s1.toks + 1 } := I3.pins_of fun p hp => by
      rcases List.mem_cons.mp hp with e | e
      · subst e
        exact ⟨Heap.get?_update_self _ gP rfl, nH, pL.2.2.1, pL.2.2.2.1, fun v z => by cases z⟩
      · exact I3.pin p (List.mem_append_right _ e)
    exact ih (i + 1) _ (acc.push (.str t s1.toks)) _ (done ++ [(t, s1.toks)]) (by omega) hlt I4 (by simp [hacc, strValues]) (by simp [List.take_add_one, ht, hdone])
theorem fin_lst {n0 : Nat} {a : Addr} {d : D} {v : V} {vs : List V} {ts : List Str} {g : List Code} {pins : List (Addr × Obj)} {σ : L2.St} {s : Shared} {R : Result → Shared → Prop} {base : Nat}
    (ha : H a = some (.lst (v :: vs))) (hd : Rep (CN X.K) M H (.ref a) d) (hn : n0 < sizeOf d) (hT : RepIs X M H k n0 (v :: vs) ts) (hg : A.guards = some g) (hc : GC X M H (sizeOf d) g) (hr : RoomR X (k + 1) A) (I : Inv X pins σ H s)
    (hR : ∀ s' u, Inv X pins σ H s' → R (.ok (.ret (.str (listText ts) u))) s') (hsz : base + (listText ts).length ≤ sizeLine) :
    wpAny (model X.prog X.w) A.in1 (Builtin.listReprAt base ⟨[.ref a], []⟩) (fun fin s' => match fin with | .done f => R (.ok f) s' | .again c' => c'.quiet = true ∧ codeAny (model X.prog X.w) A c' R s') (fun e s' => R (.error e) s') s := by
  obtain ⟨_, its, na, rv, ho⟩ := I.hok a _ ha
  cases rv with
  | @cons _ u _ us ru rus =>
    refine wpAny_list_repr_head (A := A.in1) hg (fun v rest kw hm => listSameRef_of_ne (hc a d (Nat.le_refl _) hd _ _ _ _ hm)) ho rfl ?_
    refine wpAny_bind (m := newList []) (wpAny_newObj_type ?_)
    refine wpAny_pure ⟨F.quiet_list_repr_loop _, ?_⟩
    have hpp : ∀ p ∈ X.pn ++ pins, p.1 ≠ s.heap.objs.size := fun p hp => Nat.ne_of_lt (Heap.lt_size (I.pin p hp).1)
    refine loop_rep (P := s.heap.objs.size) ha hd hn hT hg (hc.mono (Nat.le_of_lt hn)) hr hsz I.sz hpp hR _ 0 _ #[] 0 [] rfl (Nat.zero_le _) ?_ rfl (by simp)
    exact ClX.pin_new (t' := s.toks) I (fun b o e => Heap.get?_push_of_some _ e) (Nat.le_refl _) (Heap.get?_push_size _ rfl) (fun v z => by cases z)
theorem RepI.lst {n0 : Nat} {a : Addr} {d : D} {vs : List V} {ts : List Str} (ha : H a = some (.lst vs)) (hd : Rep (CN X.K) M H (.ref a) d) (hn : n0 < sizeOf d) (hT : RepIs X M H k n0 vs ts) : RepI X M H (k + 1) (sizeOf d) (.ref a) (listText ts) := by
  intro base hb A g E pins σ s Q hg hc hr I hQ
  obtain ⟨_, its, na, rv, ho⟩ := I.hok a _ ha
  have hTy : s.TypeIs (.ref a) "list" := ⟨_, ho, rfl⟩
  cases vs with
  | nil =>
    cases hT
    cases rv
    exact wpAny_pyReprUnder_ref (by omega) (wpAny_pyReprObjUnder_list_empty hTy (by have := hr.units; omega) ho rfl ⟨_, _, rfl, hQ _ (I.tok _)⟩)
  | cons v vs =>
    refine wpAny_pyReprUnder_ref (by omega) (wpAny_pyReprObjUnder_twin (twin := "list.__repr__.under") hTy F.slot_list_repr.toG rfl (by have := hr.units; omega) ?_)
    refine call_twin_plain F.plain_list_repr_under F.entry_list_repr_under F.check_list_repr_under hTy F.slot_list_repr.toG (F.args_list_repr_1 _) ?_
    exact fin_lst (R := callEnd _ E) ha hd hn hT hg hc hr I (fun s' u I' => ⟨⟨_, _, rfl⟩, _, _, rfl, hQ s' I'⟩) hb
/-! ### an empty dict -/
theorem dic_obj {pins : List (Addr × Obj)} {σ : L2.St} {s : Shared} {a : Addr} (I : Inv X pins σ H s) (ha : H a = some (.dK [])) : ∃ (o : Obj) (n : Nat), s.heap.get? a = some o ∧ o.cls = .type "dict" ∧ o.data = .dict #[] n ∧ (a == sysModules) = false := by
  obtain ⟨_, hs, vs, kv, o, es, ep, ho, hx, hd, _, hp, _⟩ := I.hok a _ ha
  cases kv
  cases e : es.toList with
  | nil =>
    have e2 : es = #[] := by simpa using e
    subst e2
    exact ⟨o, ep, ho, hx.1, hd, hs⟩
  | cons x r =>
    rw [e] at hp
    cases hp
theorem RepI.dic {n : Nat} {a : Addr} (ha : H a = some (.dK [])) (hn : sizeOf D.dic ≤ n) : RepI X M H k n (.ref a) "{}" := by
  intro base hb A g E pins σ s Q hg hc hr I hQ
  obtain ⟨o, m, ho, hcl, hd, hs⟩ := dic_obj I ha
  have hcl2 : Clear g a := hc a .dic hn (by unfold Rep; exact ⟨a, rfl, ha⟩)
  refine wpAny_pyReprUnder_ref (by omega) (wpAny_pyReprObjUnder_dictK (h₀ := s.heap) (as := []) (d := 0) (ps := []) ho hcl hd hs (by simp) .nil hg (fun b hb => ?_) (by have := hr.units; omega) (fun _ _ e => e) (fun h' u tk hk => ⟨_, _, rfl, hQ _ (I.kept hk)⟩) hb)
  have e : b = a := by simpa using hb
  rw [e]
  exact hcl2
/-! ### all data -/
mutual
theorem rep_all (T : Tx X.w X.K X.mg) {n : Nat} (hn : n ≤ 1900) : ∀ {v : V} {d : D}, Rep (CN X.K) M H v d → Fine n d → ∀ u, L2.RelV v u → RepI X M H (D.dep d) (sizeOf d) u (reprD d)
  | v, .non, h, hf, u, r => by
    unfold Rep at h
    subst h
    obtain rfl : u = Value.none := r
    unfold reprD
    exact .of_is ReprIs.none
  | v, .bl b, h, hf, u, r => by
    unfold Rep at h
    subst h
    obtain rfl : u = Value.bool b := r
    unfold reprD
    exact .of_is (ReprIs.bool b)
  | v, .int i, h, hf, u, r => by
    unfold Rep at h
    unfold Fine at hf
    subst h
    obtain ⟨t, rfl⟩ := r
    unfold reprD
    exact .of_is (ReprIs.int t (bd_log hf hn))
  | v, .str x, h, hf, u, r => by
    unfold Rep at h
    subst h
    obtain ⟨t, rfl⟩ := r
    unfold reprD
    intro base hb A g E pins σ s Q _ _ _ I hQ
    exact ReprIs.str x t (by omega) base hb A E s Q fun tk => hQ _ (I.tok tk)
  | v, .num q, h, hf, u, r => by
    unfold Rep at h
    unfold Fine at hf
    obtain ⟨a, rfl, na⟩ := h
    obtain rfl : u = Value.ref a := r
    unfold reprD
    exact RepI.num T na ⟨hf.1.mono hn, hf.2.mono hn⟩
  | v, .tup ds, h, hf, u, r => by
    have h0 := h
    unfold Rep at h
    unfold Fine at hf
    obtain ⟨a, vs, rfl, ea, hr⟩ := h
    obtain rfl : u = Value.ref a := r
    unfold reprD D.dep
    exact RepI.tup ea h0 (by simp) (reps_all T hn hr hf)
  | v, .lst ds, h, hf, u, r => by
    have h0 := h
    unfold Rep at h
    unfold Fine at hf
    obtain ⟨a, vs, rfl, _, ea, hr⟩ := h
    obtain rfl : u = Value.ref a := r
    unfold reprD D.dep
    exact RepI.lst ea h0 (by simp) (reps_all T hn hr hf)
  | v, .dic, h, hf, u, r => by
    unfold Rep at h
    obtain ⟨a, rfl, ea⟩ := h
    obtain rfl : u = Value.ref a := r
    unfold reprD
    exact RepI.dic ea (Nat.le_refl _)
theorem reps_all (T : Tx X.w X.K X.mg) {n : Nat} (hn : n ≤ 1900) : ∀ {vs : List V} {ds : List D}, Reps (CN X.K) M H vs ds → Fines n ds → RepIs X M H (D.deps ds) (sizeOf ds) vs (reprDs ds)
  | [], [], _, _ => by unfold reprDs; exact .nil
  | v :: vs, d :: ds, h, hf => by
    have h3 := reps_cons.mp h
    unfold Fines at hf
    unfold reprDs D.deps
    exact .cons (fun u r => (rep_all T hn h3.1 hf.1 u r).mono (Nat.le_max_left _ _) (by simp only [List.cons.sizeOf_spec]; omega)) ((reps_all T hn h3.2 hf.2).mono (Nat.le_max_right _ _) (by simp only [List.cons.sizeOf_spec]; omega))
  | [], _ :: _, h, _ => by unfold Reps at h; exact h.elim
  | _ :: _, [], h, _ => by unfold Reps at h; exact h.elim
end
/-- repr(x) -/
theorem call_repr (T : Tx X.w X.K X.mg) (hg : X.A.guards = some []) (hr : Room 20 X.A) : CallR X (.builtin "repr") (fun xs H Q => ∃ (M : Addr → Prop) (v : V) (d : D), xs = [v] ∧ Rep (CN X.K) M H v d ∧ Fine 1900 d ∧ D.dep d ≤ 20 ∧ D.wt d ≤ sizeLine ∧ Q (.str (reprD d)) H) := by
  intro pins s σ H xs us Q I r h
  obtain ⟨M, v, d, rfl, hrep, hf, hdep, hwt, q⟩ := h
  obtain ⟨u, rfl, ru⟩ := vals1 r
  have hz := Nat.le_trans (repr_wt (Nat.le_refl _) hf) hwt
  have gc : ∀ n, GC X M H n [] := fun n b d _ _ => Clear.nil b
  have rr : RoomR X 21 X.A.in1 := ⟨rfl, hr.hd, by have := hr.dp; show X.A.depth + 21 + 11 < _; omega, by have := hr.un; show X.A.units + 1 + 21 + 232 < _; omega⟩
  have hu1 : X.A.units + 1 < cLine := by have := hr.un; omega
  cases d with
  | non =>
    unfold Rep at hrep
    unfold reprD at q
    subst hrep
    obtain rfl : u = Value.none := ru
    exact PySem.P.repr_of_none ⟨.str _, H, I.tok _, ⟨_, rfl⟩, q⟩
  | bl b =>
    unfold Rep at hrep
    unfold reprD at q
    subst hrep
    obtain rfl : u = Value.bool b := ru
    exact PySem.P.repr_of_bool ⟨.str _, H, I.tok _, ⟨_, rfl⟩, q⟩
  | int i =>
    unfold Rep at hrep
    unfold Fine at hf
    unfold reprD at q
    subst hrep
    obtain ⟨t, rfl⟩ := ru
    exact PySem.P.repr_of_int (bd_log hf (by decide)) ⟨.str _, H, I.tok _, ⟨_, rfl⟩, q⟩
  | str x =>
    unfold Rep at hrep
    unfold reprD at q hz
    subst hrep
    obtain ⟨t, rfl⟩ := ru
    exact PySem.P.repr_of_str ⟨.str _, H, I.tok _, ⟨_, rfl⟩, q⟩ hz
  | num p =>
    unfold Rep at hrep
    unfold Fine at hf
    unfold reprD at q
    obtain ⟨a, rfl, na⟩ := hrep
    obtain rfl : u = Value.ref a := ru
    obtain ⟨dx, ea⟩ := id na
    obtain ⟨mA, J, _⟩ := ins_get I.hok ea
    obtain ⟨od, J, _⟩ := J.look
    obtain ⟨m, hF⟩ := I.fr
    have Mt := T.m_repr
    refine PySem.W.repr_K hu1 hF I.ok.mod.kin J Mt.at_ Mt.fn (wpAny_mono (run_rep (E := X.xe) T (hr.mono (by decide)).in1 rfl I na hf) (fun v s' z => ?_) fun _ _ y => y)
    obtain ⟨⟨t, rfl⟩, I'⟩ := z
    exact ⟨.str _, H, I', ⟨_, rfl⟩, q⟩
  | tup ds =>
    have h0 := hrep
    unfold Rep at hrep
    unfold Fine at hf
    unfold reprD at q hz
    unfold D.dep at hdep
    obtain ⟨a, vs, rfl, ea, hrs⟩ := hrep
    obtain rfl : u = Value.ref a := ru
    obtain ⟨_, its, rv, o, ho, hcl, m, hdt⟩ := I.hok a _ ea
    refine call_repr_slot hu1 ⟨o, ho, hcl⟩ F.slot_tuple_repr (wpAny_call (codeAny_call_builtin_own (Code.quiet_builtin _ (by decide +kernel)) F.entry_tuple_repr (F.slot_tuple_repr.check _ _ _ _ _ _ _ _ ⟨o, ho, hcl⟩ (F.args_tuple_repr_1 _) ?_)))
    exact own_tup (base := 0) (R := callEnd _ X.xe) ea h0 (by simp) (reps_all T (Nat.le_refl _) hrs hf) (isGuard_tuple_repr _) (weight_tup _) (units_under_tuple_repr _ _) hg (gc _) (rr.mono (by omega)) I (fun s' u I' => ⟨_, _, rfl, .str _, H, I', ⟨_, rfl⟩, q⟩) (by omega)
  | lst ds =>
    have h0 := hrep
    unfold Rep at hrep
    unfold Fine at hf
    unfold reprD at q hz
    unfold D.dep at hdep
    obtain ⟨a, vs, rfl, _, ea, hrs⟩ := hrep
    obtain rfl : u = Value.ref a := ru
    obtain ⟨_, its, na, rv, ho⟩ := I.hok a _ ea
    have hTy : s.TypeIs (.ref a) "list" := ⟨_, ho, rfl⟩
    refine call_repr_slot hu1 hTy F.slot_list_repr.toG ?_
    cases vs with
    | nil =>
      cases rv
      cases ds with
      | cons _ _ => unfold Reps at hrs; exact hrs.elim
      | nil =>
        unfold reprDs at q
        exact call_list_repr_empty hTy ho rfl ⟨_, _, rfl, .str _, H, I.tok _, ⟨_, rfl⟩, q⟩
    | cons v vs =>
      refine wpAny_call (codeAny_call_builtin F.slot_list_repr.plain F.entry_list_repr (F.slot_list_repr.check _ _ _ _ _ _ _ _ hTy (F.args_list_repr_1 _) ?_))
      exact fin_lst (base := 0) (R := callEnd _ X.xe) ea h0 (by simp) (reps_all T (Nat.le_refl _) hrs hf) hg (gc _) (rr.mono (by omega)) I (fun s' u I' => ⟨_, _, rfl, .str _, H, I', ⟨_, rfl⟩, q⟩) (by omega)
  | dic =>
    unfold Rep at hrep
    unfold reprD at q
    obtain ⟨a, rfl, ea⟩ := hrep
    obtain rfl : u = Value.ref a := ru
    obtain ⟨o, m, ho, hcl, hd, hs⟩ := dic_obj I ea
    exact call_repr_slot hu1 ⟨o, ho, hcl⟩ F.slot_dict_repr (call_dict_reprK (h₀ := s.heap) (as := []) (d := 0) (ps := []) ho hcl hd hs (by simp) .nil hg (fun b _ => Clear.nil b) (by have := rr.units; omega) (fun _ _ e => e) (fun h' u tk hk => ⟨_, _, rfl, .str _, H, I.kept hk, ⟨_, rfl⟩, q⟩) (by decide))
end
end Fg
set_option Elab.async false
set_option linter.all false
set_option maxRecDepth 100000
set_option maxHeartbeats 1000000
/-! D7: round_holds. -/
namespace Fg
open PySem PySem.Spec PyProof.Rows L2
def roundB (x : Rat) (z : Way) : D → Bool
  | .tup [.int a, .int b, .int c] => decide (a = x.floor) && (decide (b = hiN x) && decide (c = cnt z x))
  | _ => false
theorem num_pos_iff {q : Rat} : 0 < q.num ↔ 0 < q := by
  constructor
  · intro h
    refine Rat.not_le.mp fun h2 => ?_
    rcases Rat.le_iff_lt_or_eq.mp h2 with h3 | h3
    · have := Rat.num_nonneg (q := q)
      have h4 : ¬ 0 ≤ q := Rat.not_le.mpr h3
      exact h4 (this.mp (by omega))
    · rw [h3] at h
      exact absurd h (by decide)
  · exact num_pos
theorem ne0 {s : Rat} (h : 0 < s) : s ≠ 0 := fun e => by rw [e] at h; exact absurd h (by decide)
/-- below.top -/
theorem below_zero {p s : Rat} {a : Int} (h0 : 0 < s) : ((p - s * (a : Rat)).num = 0) ↔ p / s = (a : Rat) := by
  have e0 := ne0 h0
  rw [Rat.num_eq_zero]
  constructor <;> intro h <;> grind
theorem below_pos {p s : Rat} {a : Int} (h0 : 0 < s) : (0 < (p - s * (a : Rat)).num) ↔ (a : Rat) < p / s := by
  rw [num_pos_iff, Rat.lt_div_iff h0]
  constructor <;> intro h <;> grind
theorem above_pos {p s : Rat} {a : Int} (h0 : 0 < s) : (0 < (s * (a : Rat) - p).num) ↔ p / s < (a : Rat) := by
  rw [num_pos_iff, Rat.div_lt_iff h0]
  constructor <;> intro h <;> grind
theorem roundB_tup {x : Rat} {z : Way} {a b c : Int} : roundB x z (.tup [.int a, .int b, .int c]) = (decide (a = x.floor) && (decide (b = hiN x) && decide (c = cnt z x))) := rfl
theorem round_same {x : Rat} {z : Way} {a c : Int} : roundB x z (.tup [.int a, .int a, .int c]) = (decide (c = a) && decide (x = (a : Rat))) := by
  rw [roundB_tup]
  by_cases h : x = (a : Rat)
  · have h1 : x.floor = a := by rw [h]; exact fl_int a
    have h2 : isI x = true := by rw [h]; exact isI_int a
    have h3 : cnt z x = a := by rw [h]; exact cnt_int z a
    have h4 : hiN x = a := by unfold hiN; rw [if_pos h2, h1]
    rw [h1, h3, h4, decide_eq_true h]
    simp
  · rw [decide_eq_false h, Bool.and_false]
    by_cases h1 : a = x.floor
    · have h2 : ¬ isI x = true := fun e => h (by
        unfold isI at e
        rw [h1]
        exact (of_decide_eq_true e).symm)
      have h3 : ¬ a = hiN x := by
        unfold hiN
        rw [if_neg h2]
        omega
      rw [decide_eq_false h3]
      simp
    · rw [decide_eq_false h1]
      simp
theorem round_between {x : Rat} {z : Way} {a b c : Int} (h : b = a + 1) (h1 : (a : Rat) < x) (h2 : x < (b : Rat)) : roundB x z (.tup [.int a, .int b, .int c]) = decide (c = if goes z a (x - (a : Rat)) = true then b else a) := by
  subst h
  have hf : x.floor = a := fl_of (Rat.le_of_lt h1) (by rw [Rat.intCast_add] at h2; exact h2)
  have hi : ¬ isI x = true := fun e => by
    unfold isI at e
    have e2 := of_decide_eq_true e
    rw [hf] at e2
    rw [e2] at h1
    exact Rat.lt_irrefl h1
  rw [roundB_tup]
  unfold hiN cnt fr
  rw [if_neg hi, if_neg hi, hf]
  simp
theorem round_out {x : Rat} {z : Way} {a b c : Int} (hab : ¬ a = b) (h : ¬ (b = a + 1 ∧ (a : Rat) < x ∧ x < (b : Rat))) : roundB x z (.tup [.int a, .int b, .int c]) = false := by
  rw [roundB_tup]
  by_cases h1 : a = x.floor
  · by_cases h2 : b = hiN x
    · exfalso
      unfold hiN at h2
      by_cases hi : isI x = true
      · rw [if_pos hi] at h2
        exact hab (h1.trans h2.symm)
      · rw [if_neg hi] at h2
        refine h ⟨by omega, ?_, ?_⟩
        · rw [h1]
          refine Rat.lt_of_le_of_ne (fl_le x) fun e => hi ?_
          unfold isI
          exact decide_eq_true e
        · rw [h2]
          have := fl_lt x
          rw [Rat.intCast_add]
          exact this
    · rw [decide_eq_false h2]
      simp
  · rw [decide_eq_false h1]
    simp
section
variable {P : Program} {w : World} {K : PySem.W.Frag} {mg : Str → Option Value} {base : Heap}
/-! ### is_whole -/
def sp_whole (K : PySem.W.Frag) : Sp := fun vs H Q _ => ∃ (M : Addr → Prop) (v : V) (d : D), vs = [v] ∧ Rep (CN K) M H v d ∧ Q (.bl d.isInt) H
theorem sc_is_whole_roundchecks : FnScope ["thing"] ["thing"] (defScope s_is_whole_roundchecks) := ⟨rfl, rfl, rfl, by decide +kernel, rfl, by decide +kernel, by decide +kernel⟩
theorem ok_is_whole_roundchecks (T : Tx w K mg) : DefOk P w K mg base "is_whole_roundchecks" 1 [] (sp_whole K) := by
  obtain ⟨fd, F⟩ := T.q_is_whole_roundchecks
  refine DefOk.of (ps := ["thing"]) F T.g_is_whole_roundchecks (fun _ _ _ _ _ _ us hl => match us, hl with | [_], _ => rfl) (FunD.ok0 F sc_is_whole_roundchecks (fun vs H Q E h => ?_) (fun cdv A outer s H vs Q E hr h => ?_))
  · obtain ⟨M, v, d, rfl, _⟩ := h
    rfl
  · obtain ⟨M, v, d, rfl, hd, hQ⟩ := h
    refine ⟨_, (pss_one (ps_ret (pe_and (pe_callB call_isi (by rfl) T.n_isinstance (by decide +kernel) (pa_cons (pv 0) (pa_cons (pe_bltn (v := .ty "int") (by rfl) (T.n_int) (by decide +kernel) rfl) pa_nil))) (pe_one (pe_not (pe_callB call_isi (by rfl) T.n_isinstance (by decide +kernel) (pa_cons (pv 0) (pa_cons (pe_bltn (v := .ty "bool") (by rfl) (T.n_bool) (by decide +kernel) rfl) pa_nil)))))))), ?_⟩
    refine ⟨_, rfl, _, _, _, _, _, rfl, .ty _, T.ty.of hd, T.ty.kInt d, _, rfl, ?_⟩
    cases c : d.isInt || d.isBl with
    | true =>
      refine iteT ⟨_, rfl, _, _, _, _, _, rfl, .ty _, T.ty.of hd, T.ty.kBool d, _, rfl, ?_⟩
      have e : (!d.isBl) = d.isInt := by cases d <;> first | rfl | cases c
      rw [e]
      exact hQ
    | false =>
      refine iteF ?_
      have e : d.isInt = false := by cases d <;> first | rfl | cases c
      rw [e] at hQ
      exact hQ
theorem sc_is_whole_sumchecks : FnScope ["thing"] ["thing"] (defScope s_is_whole_sumchecks) := ⟨rfl, rfl, rfl, by decide +kernel, rfl, by decide +kernel, by decide +kernel⟩
theorem ok_is_whole_sumchecks (T : Tx w K mg) : DefOk P w K mg base "is_whole_sumchecks" 1 [] (sp_whole K) := by
  obtain ⟨fd, F⟩ := T.q_is_whole_sumchecks
  refine DefOk.of (ps := ["thing"]) F T.g_is_whole_sumchecks (fun _ _ _ _ _ _ us hl => match us, hl with | [_], _ => rfl) (FunD.ok0 F sc_is_whole_sumchecks (fun vs H Q E h => ?_) (fun cdv A outer s H vs Q E hr h => ?_))
  · obtain ⟨M, v, d, rfl, _⟩ := h
    rfl
  · obtain ⟨M, v, d, rfl, hd, hQ⟩ := h
    refine ⟨_, (pss_one (ps_ret (pe_and (pe_callB call_isi (by rfl) T.n_isinstance (by decide +kernel) (pa_cons (pv 0) (pa_cons (pe_bltn (v := .ty "int") (by rfl) (T.n_int) (by decide +kernel) rfl) pa_nil))) (pe_one (pe_not (pe_callB call_isi (by rfl) T.n_isinstance (by decide +kernel) (pa_cons (pv 0) (pa_cons (pe_bltn (v := .ty "bool") (by rfl) (T.n_bool) (by decide +kernel) rfl) pa_nil)))))))), ?_⟩
    refine ⟨_, rfl, _, _, _, _, _, rfl, .ty _, T.ty.of hd, T.ty.kInt d, _, rfl, ?_⟩
    cases c : d.isInt || d.isBl with
    | true =>
      refine iteT ⟨_, rfl, _, _, _, _, _, rfl, .ty _, T.ty.of hd, T.ty.kBool d, _, rfl, ?_⟩
      have e : (!d.isBl) = d.isInt := by cases d <;> first | rfl | cases c
      rw [e]
      exact hQ
    | false =>
      refine iteF ?_
      have e : d.isInt = false := by cases d <;> first | rfl | cases c
      rw [e] at hQ
      exact hQ
theorem sc_is_whole_shortchecks : FnScope ["thing"] ["thing"] (defScope s_is_whole_shortchecks) := ⟨rfl, rfl, rfl, by decide +kernel, rfl, by decide +kernel, by decide +kernel⟩
theorem ok_is_whole_shortchecks (T : Tx w K mg) : DefOk P w K mg base "is_whole_shortchecks" 1 [] (sp_whole K) := by
  obtain ⟨fd, F⟩ := T.q_is_whole_shortchecks
  refine DefOk.of (ps := ["thing"]) F T.g_is_whole_shortchecks (fun _ _ _ _ _ _ us hl => match us, hl with | [_], _ => rfl) (FunD.ok0 F sc_is_whole_shortchecks (fun vs H Q E h => ?_) (fun cdv A outer s H vs Q E hr h => ?_))
  · obtain ⟨M, v, d, rfl, _⟩ := h
    rfl
  · obtain ⟨M, v, d, rfl, hd, hQ⟩ := h
    refine ⟨_, (pss_one (ps_ret (pe_and (pe_callB call_isi (by rfl) T.n_isinstance (by decide +kernel) (pa_cons (pv 0) (pa_cons (pe_bltn (v := .ty "int") (by rfl) (T.n_int) (by decide +kernel) rfl) pa_nil))) (pe_one (pe_not (pe_callB call_isi (by rfl) T.n_isinstance (by decide +kernel) (pa_cons (pv 0) (pa_cons (pe_bltn (v := .ty "bool") (by rfl) (T.n_bool) (by decide +kernel) rfl) pa_nil)))))))), ?_⟩
    refine ⟨_, rfl, _, _, _, _, _, rfl, .ty _, T.ty.of hd, T.ty.kInt d, _, rfl, ?_⟩
    cases c : d.isInt || d.isBl with
    | true =>
      refine iteT ⟨_, rfl, _, _, _, _, _, rfl, .ty _, T.ty.of hd, T.ty.kBool d, _, rfl, ?_⟩
      have e : (!d.isBl) = d.isInt := by cases d <;> first | rfl | cases c
      rw [e]
      exact hQ
    | false =>
      refine iteF ?_
      have e : d.isInt = false := by cases d <;> first | rfl | cases c
      rw [e] at hQ
      exact hQ
/-! ### is_tie, is_greater -/
theorem txt_inj : ∀ z y : Way, z.txt = y.txt → z = y := by
  intro z y
  cases z <;> cases y <;> first | (intro _; rfl) | (intro h; exact absurd h (by decide +kernel))
theorem txt_dec (z y : Way) : decide (V.str z.txt = V.str y.txt) = decide (z = y) := decide_eq_decide.mpr ⟨fun h => txt_inj z y (by injection h), fun h => by rw [h]⟩
theorem txt_hup (z : Way) : decide (V.str z.txt = V.str (Str.ofString "half up")) = decide (z = .hup) := txt_dec z .hup
theorem txt_hdown (z : Way) : decide (V.str z.txt = V.str (Str.ofString "half down")) = decide (z = .hdown) := txt_dec z .hdown
theorem txt_hodd (z : Way) : decide (V.str z.txt = V.str (Str.ofString "half odd")) = decide (z = .hodd) := txt_dec z .hodd
theorem txt_high (z : Way) : decide (V.str z.txt = V.str (Str.ofString "high")) = decide (z = .high) := txt_dec z .high
theorem txt_up (z : Way) : decide (V.str z.txt = V.str (Str.ofString "up")) = decide (z = .up) := txt_dec z .up
theorem in_hl (z : Way) : inV (.str z.txt) [.str (Str.ofString "high"), .str (Str.ofString "low")] = decide (z = .high ∨ z = .low) := by cases z <;> decide +kernel
theorem in_ud (z : Way) : inV (.str z.txt) [.str (Str.ofString "up"), .str (Str.ofString "down")] = decide (z = .up ∨ z = .down) := by cases z <;> decide +kernel
theorem bl_dec (b c : Bool) : decide (V.bl b = V.bl c) = decide (b = c) := decide_eq_decide.mpr ⟨fun h => by injection h, fun h => by rw [h]⟩
theorem int_dec (b c : Int) : decide (V.int b = V.int c) = decide (b = c) := decide_eq_decide.mpr ⟨fun h => by injection h, fun h => by rw [h]⟩
def tieB (z : Way) (a : Int) : Bool := match z with | .hup => decide (0 ≤ a) | .hdown => decide (a < 0) | .heven => decide (a % 2 = 1) | _ => decide (a % 2 = 0)
theorem goes_tie : ∀ (z : Way) (a : Int) {f : Rat}, z.half = true → 2 * f = 1 → goes z a f = tieB z a
  | .hup, a, f, _, h => by unfold goes byH tieB; simp only; rw [if_pos h]
  | .hdown, a, f, _, h => by unfold goes byH tieB; simp only; rw [if_pos h]
  | .heven, a, f, _, h => by unfold goes byH tieB; simp only; rw [if_pos h]
  | .hodd, a, f, _, h => by unfold goes byH tieB; simp only; rw [if_pos h]
theorem goes_far : ∀ (z : Way) (a : Int) {f : Rat}, z.half = true → ¬ 2 * f = 1 → goes z a f = decide (1 < 2 * f)
  | .hup, a, f, _, h => by unfold goes byH; simp only; rw [if_neg h]
  | .hdown, a, f, _, h => by unfold goes byH; simp only; rw [if_neg h]
  | .heven, a, f, _, h => by unfold goes byH; simp only; rw [if_neg h]
  | .hodd, a, f, _, h => by unfold goes byH; simp only; rw [if_neg h]
def sp_tie : Sp := fun vs H Q _ => ∃ (a : Int) (z : Way), vs = [.int a, .str z.txt] ∧ z.half = true ∧ ∀ H', Same H H' → Q (.bl (tieB z a)) H'
theorem sc_is_tie : FnScope ["low", "way"] ["low", "way"] (defScope s_is_tie) := ⟨rfl, rfl, rfl, by decide +kernel, rfl, by decide +kernel, by decide +kernel⟩
theorem ok_is_tie (T : Tx w K mg) : DefOk P w K mg base "is_tie" 1 [] sp_tie := by
  obtain ⟨fd, F⟩ := T.q_is_tie
  refine DefOk.of (ps := ["low", "way"]) F T.g_is_tie (fun _ _ _ _ _ _ us hl => match us, hl with | [_, _], _ => rfl) (FunD.ok0 F sc_is_tie (fun vs H Q E h => ?_) (fun cdv A outer s H vs Q E hr h => ?_))
  · obtain ⟨a, z, rfl, _⟩ := h
    rfl
  · obtain ⟨a, z, rfl, hz, hQ⟩ := h
    refine ⟨_, (pss_cons (ps_if (pt_cmpR op_eq (pv 1) pe_str (nomark _)) (pss_one (ps_ret (pe_cmpR op_ge (pv 0) pe_int (nomark _)))) pss_nil)
      (pss_cons (ps_if (pt_cmpR op_eq (pv 1) pe_str (nomark _)) (pss_one (ps_ret (pe_cmpR op_lt (pv 0) pe_int (nomark _)))) pss_nil)
      (pss_one (ps_ret (pe_cmpR op_eq (pe_cmpR op_eq (pe_op op_mod (pv 0) pe_int) pe_int (nomark _)) (pe_cmpR op_eq (pv 1) pe_str (nomark _)) (nomark _)))))), ?_⟩
    have q := hQ H (Same.refl H)
    refine ⟨_, rfl, rfl, _, rfl, ?_⟩
    rw [txt_hup]
    by_cases c1 : z = .hup
    · subst c1
      exact iteT ⟨_, rfl, _, _, rfl, rfl, q⟩
    rw [decide_eq_false c1]
    refine iteF ⟨_, rfl, rfl, _, rfl, ?_⟩
    rw [txt_hdown]
    by_cases c2 : z = .hdown
    · subst c2
      exact iteT ⟨_, rfl, _, _, rfl, rfl, q⟩
    rw [decide_eq_false c2]
    refine iteF ⟨_, rfl, _, _, rfl, rfl, by show (0 : Int) < 2; decide, rfl, _, rfl, rfl, rfl, ?_⟩
    rw [txt_hodd, int_dec, bl_dec]
    have e2 : a % 2 = 0 ∨ a % 2 = 1 := by omega
    unfold tieB at q
    cases z with
    | heven =>
      have e : decide (decide (a % 2 = 0) = decide (Way.heven = Way.hodd)) = decide (a % 2 = 1) := by rcases e2 with e | e <;> simp [e]
      rw [e]
      exact q
    | hodd =>
      have e : decide (decide (a % 2 = 0) = decide (Way.hodd = Way.hodd)) = decide (a % 2 = 0) := by rcases e2 with e | e <;> simp [e]
      rw [e]
      exact q
    | hup => exact absurd rfl c1
    | hdown => exact absurd rfl c2
    | _ => cases hz
/-- is the greater one nearer, or taken -/
def sp_greater (K : PySem.W.Frag) : Sp := fun vs H Q _ => ∃ (a : Int) (x y : V) (p s : Rat) (z : Way), vs = [.int a, x, y, .str z.txt] ∧ NumV (CN K) H x (p - s * (a : Rat)) ∧ NumV (CN K) H y (s * ((a + 1 : Int) : Rat) - p) ∧ 0 < s ∧ Sz 2000 (p - s * (a : Rat)) ∧ Sz 2000 (s * ((a + 1 : Int) : Rat) - p) ∧
  ∀ H', Same H H' → Q (.bl (goes z a (p / s - (a : Rat)))) H'
theorem great_half {p s : Rat} {a : Int} (h0 : 0 < s) : (p - s * (a : Rat) = s * ((a + 1 : Int) : Rat) - p) ↔ 2 * (p / s - (a : Rat)) = 1 := by
  have e0 := ne0 h0
  rw [Rat.intCast_add]
  have e1 : ((1 : Int) : Rat) = 1 := rfl
  rw [e1]
  constructor
  · intro h
    have : 2 * p = s * (2 * (a : Rat) + 1) := by grind
    grind
  · intro h
    have : 2 * (p / s) = 2 * (a : Rat) + 1 := by grind
    have h2 : 2 * p = s * (2 * (a : Rat) + 1) := by grind
    grind
theorem great_lt {p s : Rat} {a : Int} (h0 : 0 < s) : (s * ((a + 1 : Int) : Rat) - p < p - s * (a : Rat)) ↔ 1 < 2 * (p / s - (a : Rat)) := by
  have e0 := ne0 h0
  have h : p / s * s = p := by grind
  rw [Rat.intCast_add]
  have e1 : ((1 : Int) : Rat) = 1 := rfl
  rw [e1]
  have key : (2 * (p / s - (a : Rat)) - 1) * s = (p - s * (a : Rat)) - (s * ((a : Rat) + 1) - p) := by grind
  constructor
  · intro h1
    have h2 : 0 < (2 * (p / s - (a : Rat)) - 1) * s := by rw [key]; grind
    have h3 : 0 < 2 * (p / s - (a : Rat)) - 1 := by
      refine Rat.not_le.mp fun c => ?_
      have := Rat.mul_le_mul_of_nonneg_right c (Rat.le_of_lt h0)
      grind
    grind
  · intro h1
    have h3 : 0 < 2 * (p / s - (a : Rat)) - 1 := by grind
    have h2 := Rat.mul_pos h3 h0
    rw [key] at h2
    grind
theorem sc_is_greater : FnScope ["low", "below", "above", "way"] ["low", "below", "above", "way"] (defScope s_is_greater) := ⟨rfl, rfl, rfl, by decide +kernel, rfl, by decide +kernel, by decide +kernel⟩
theorem ok_is_greater (T : Tx w K mg) : DefOk P w K mg base "is_greater" 5 [] (sp_greater K) := by
  obtain ⟨fd, F⟩ := T.q_is_greater
  refine DefOk.of (ps := ["low", "below", "above", "way"]) F T.g_is_greater (fun _ _ _ _ _ _ us hl => match us, hl with | [_, _, _, _], _ => rfl) (FunD.ok0 F sc_is_greater (fun vs H Q E h => ?_) (fun cdv A outer s H vs Q E hr h => ?_))
  · obtain ⟨a, x, y, p, s, z, rfl, _⟩ := h
    rfl
  · obtain ⟨a, x, y, p, q, z, rfl, hx, hy, h0, sx, sy, hQ⟩ := h
    refine ⟨_, (pss_cons (ps_if (pt_cmpR op_in_seq (pv 3) (pe_tup (pa_cons pe_str (pa_cons pe_str pa_nil))) rfl) (pss_one (ps_ret (pe_cmpR op_eq (pv 3) pe_str (nomark _)))) pss_nil)
      (pss_cons (ps_if (pt_cmpR op_in_seq (pv 3) (pe_tup (pa_cons pe_str (pa_cons pe_str pa_nil))) rfl) (pss_one (ps_ret (pe_cmpR op_eq (pe_cmpR op_ge (pv 0) pe_int (nomark _)) (pe_cmpR op_eq (pv 3) pe_str (nomark _)) (nomark _)))) pss_nil)
      (pss_cons (ps_if (pt_cmpR (op_eqN T (hr.mono (by decide))) (pv 1) (pv 2) (nomark _)) (pss_one (ps_ret (pe_d (ok_is_tie T) (hr.mono (by decide)) (pa_cons (pv 0) (pa_cons (pv 3) pa_nil))))) pss_nil)
      (pss_one (ps_ret (pe_M_below T (hr.mono (by decide)) (pv 2) (pa_cons (pv 1) pa_nil))))))), ?_⟩
    refine ⟨_, rfl, by show 2 ≤ sizeLine; decide, fun t1 nt1 => ⟨t1, _, rfl, .inr (SqT.of upd_same), rfl, rfl, _, rfl, ?_⟩⟩
    have s1 : Same H _ := Same.upd (o := .tup [.str (Str.ofString "high"), .str (Str.ofString "low")]) nt1
    show if inV (.str z.txt) [.str (Str.ofString "high"), .str (Str.ofString "low")] = true then _ else _
    rw [in_hl]
    by_cases c1 : z = .high ∨ z = .low
    · rw [decide_eq_true c1]
      refine iteT ⟨_, rfl, rfl, ?_⟩
      rw [txt_high]
      have q := hQ _ s1
      rcases c1 with c1 | c1 <;> subst c1 <;> exact q
    rw [decide_eq_false c1]
    refine iteF ⟨_, rfl, by show 2 ≤ sizeLine; decide, fun t2 nt2 => ⟨t2, _, rfl, .inr (SqT.of upd_same), rfl, rfl, _, rfl, ?_⟩⟩
    have s2 := Same.updOf (o := .tup [.str (Str.ofString "up"), .str (Str.ofString "down")]) s1 nt2
    show if inV (.str z.txt) [.str (Str.ofString "up"), .str (Str.ofString "down")] = true then _ else _
    rw [in_ud]
    by_cases c2 : z = .up ∨ z = .down
    · rw [decide_eq_true c2]
      refine iteT ⟨_, rfl, _, _, rfl, rfl, _, rfl, rfl, rfl, ?_⟩
      rw [txt_up, bl_dec]
      have q := hQ _ s2
      rcases c2 with c2 | c2
      · subst c2
        have e : decide (decide (0 ≤ a) = decide (Way.up = Way.up)) = decide (0 ≤ a) := by by_cases e : 0 ≤ a <;> simp [e]
        rw [e]
        exact q
      · subst c2
        have e : decide (decide (0 ≤ a) = decide (Way.down = Way.up)) = decide (a < 0) := by
          by_cases e : 0 ≤ a
          · simp [e]
          · have : a < 0 := by omega
            simp [this]
        rw [e]
        exact q
    rw [decide_eq_false c2]
    have hz : z.half = true := by
      clear hQ
      cases z <;> first | rfl | exact absurd (.inl rfl) c1 | exact absurd (.inr rfl) c1 | exact absurd (.inl rfl) c2 | exact absurd (.inr rfl) c2
    refine iteF ⟨_, rfl, _, rfl, _, _, hx.same s2, hy.same s2, _, rfl, ?_⟩
    by_cases c3 : p - q * (a : Rat) = q * ((a + 1 : Int) : Rat) - p
    · rw [decide_eq_true c3]
      refine iteT ⟨_, rfl, _, rfl, a, z, rfl, hz, fun H3 s3 => ?_⟩
      have r := hQ H3 (s2.trans s3)
      have hh := (great_half h0).mp c3
      rw [goes_tie z a hz hh] at r
      exact r
    · rw [decide_eq_false c3]
      refine iteF ⟨_, rfl, _, hy.same s2, _, rfl, _, _, _, _, rfl, hy.same s2, hx.same s2, sy.mono (by decide), sx.mono (by decide), ?_⟩
      have r := hQ _ s2
      have hh : ¬ 2 * (p / q - (a : Rat)) = 1 := fun e => c3 ((great_half h0).mpr e)
      have e3 : decide (q * ((a + 1 : Int) : Rat) - p < p - q * (a : Rat)) = decide (1 < 2 * (p / q - (a : Rat))) := decide_eq_decide.mpr (great_lt h0)
      rw [goes_far z a hz hh, ← e3] at r
      exact r
/-! ### round_holds -/
theorem all_ints : ∀ {ds : List D}, (ds.all D.isInt) = true → ∃ is : List Int, ds = is.map D.int
  | [], _ => ⟨[], rfl⟩
  | d :: r, h => by
    rw [List.all_cons, Bool.and_eq_true] at h
    obtain ⟨is, e⟩ := all_ints h.2
    cases d <;> first | (cases h.1; done) | skip
    rename_i i
    exact ⟨i :: is, by rw [e]; rfl⟩
theorem roundB_len {x : Rat} {z : Way} {ds : List D} (h : ¬ ds.length = 3) : roundB x z (.tup ds) = false := by
  unfold roundB
  split
  · rename_i e
    injection e with e
    rw [e] at h
    exact absurd rfl h
  · rfl
theorem roundB_all {x : Rat} {z : Way} {ds : List D} (h : ds.all D.isInt = false) : roundB x z (.tup ds) = false := by
  unfold roundB
  split
  · rename_i e
    injection e with e
    rw [e] at h
    cases h
  · rfl
theorem roundB_not {x : Rat} {z : Way} {d : D} (h : d.isTup = false) : roundB x z d = false := by
  cases d <;> first | rfl | cases h
/-- the tuple of a datum -/
theorem rep_tup {C : Addr} {M : Addr → Prop} {H : Hp} {v : V} {ds : List D} (h : Rep C M H v (.tup ds)) : ∃ a vs, v = .ref a ∧ H a = some (.tup vs) ∧ Reps C M H vs ds := by
  unfold Rep at h
  exact h
theorem rep_int {C : Addr} {M : Addr → Prop} {H : Hp} {v : V} {i : Int} (h : Rep C M H v (.int i)) : v = .int i := by
  unfold Rep at h
  exact h
def sp_round_holds (K : PySem.W.Frag) : Sp := fun vs H Q _ => ∃ (M : Addr → Prop) (x y v : V) (p s : Rat) (z : Way) (d : D), vs = [x, y, .str z.txt, v] ∧ NumV (CN K) H x p ∧ NumV (CN K) H y s ∧ Sz 200 p ∧ Sz 100 s ∧ 0 < s ∧ Rep (CN K) M H v d ∧ Fine 400 d ∧
  ∀ H', Same H H' → Q (.bl (roundB (p / s) z d)) H'
theorem sc_round_holds : FnScope ["number", "step", "way", "thing", "low", "high", "taken", "below", "above", "one"] ["number", "step", "way", "thing"] (defScope s_round_holds) := ⟨rfl, rfl, rfl, by decide +kernel, rfl, by decide +kernel, by decide +kernel⟩
theorem ok_round_holds (T : Tx w K mg) : DefOk P w K mg base "round_holds" 6 [] (sp_round_holds K) := by
  obtain ⟨fd, F⟩ := T.q_round_holds
  refine DefOk.of (ps := ["number", "step", "way", "thing"]) F T.g_round_holds (fun _ _ _ _ _ _ us hl => match us, hl with | [_, _, _, _], _ => rfl) (FunD.ok0 F sc_round_holds (fun vs H Q E h => ?_) (fun cdv A outer s H vs Q E hr h => ?_))
  · obtain ⟨M, x, y, v, p, s, z, d, rfl, _⟩ := h
    rfl
  · obtain ⟨M, x, y, v, p, q, z, d, rfl, hx, hy, sp, sq, h0, hd, hf, hQ⟩ := h
    refine ⟨_, (pss_cons (ps_if (PW.pt (pw_or (pt_not (pt_val (pe_callB call_isi (by rfl) T.n_isinstance (by decide +kernel) (pa_cons (pv 3) (pa_cons (pe_bltn (v := .ty "tuple") (by rfl) (T.n_tuple) (by decide +kernel) rfl) pa_nil))))) (pw_or (pt_cmpR op_ne (pe_callB call_len_seq (by rfl) T.n_len (by decide +kernel) (pa_cons (pv 3) pa_nil)) pe_int (nomark _)) (pw_or1 (pt_not (pt_val (pe_callB (cr_all rfl) (by rfl) T.n_all (by decide +kernel) (pa_cons (pe_lc (own := [("one", 9)]) (tt := tYes) (by rfl) sc_round_holds.nd (pi_tup (pv 3)) (blkOk_by (N := ["number", "step", "way", "thing", "low", "high", "taken", "below", "above", "one"]) (sc := defScope s_round_holds) (by decide +kernel)) (fun _ _ _ _ _ => (pg_name (i := 9) sc_round_holds.nd rfl (Or.inl rfl))) (fun _ _ _ _ _ => pts_nil) (fun _ _ _ _ _ => (pe_d (ok_is_whole_roundchecks T) (hr.mono (by decide)) (pa_cons (pv 9) pa_nil)))) pa_nil)))))))) (pss_one (ps_ret pe_bl)) pss_nil)
      (pss_cons (ps_asg (pv 3) (pg_tup (by rfl) (pgs_cons (pg_name (i := 4) sc_round_holds.nd rfl (Or.inl rfl)) (pgs_cons (pg_name (i := 5) sc_round_holds.nd rfl (Or.inl rfl)) (pgs_cons (pg_name (i := 6) sc_round_holds.nd rfl (Or.inl rfl)) pgs_nil)))))
      (pss_cons (ps_set (i := 7) sc_round_holds.nd rfl (Or.inl rfl) (pe_M_less T (hr.mono (by decide)) (pv 0) (pa_cons (pe_M_times T (hr.mono (by decide)) (pv 1) (pa_cons (pe_N1 T (hr.mono (by decide)) (pa_cons (pv 4) pa_nil)) pa_nil)) pa_nil)))
      (pss_cons (ps_if (pt_cmpR op_eq (pv 4) (pv 5) (nomark _)) (pss_one (ps_ret (pe_and (pe_cmpR op_eq (pv 6) (pv 4) (nomark _)) (pe_one (pe_cmpR op_eq (pe_top T (pv 7)) pe_int (nomark _)))))) pss_nil)
      (pss_cons (ps_set (i := 8) sc_round_holds.nd rfl (Or.inl rfl) (pe_M_less T (hr.mono (by decide)) (pe_M_times T (hr.mono (by decide)) (pv 1) (pa_cons (pe_N1 T (hr.mono (by decide)) (pa_cons (pv 5) pa_nil)) pa_nil)) (pa_cons (pv 0) pa_nil)))
      (pss_cons (ps_if (PW.pt (pw_or (pt_cmpR op_ne (pv 5) (pe_op op_add (pv 4) pe_int) (nomark _)) (pw_or (pt_cmpR op_le (pe_top T (pv 7)) pe_int (nomark _)) (pw_or1 (pt_cmpR op_le (pe_top T (pv 8)) pe_int (nomark _)))))) (pss_one (ps_ret pe_bl)) pss_nil)
      (pss_one (ps_ret (pe_cmpR op_eq (pv 6) (pe_ifExp (pt_val (pe_d (ok_is_greater T) (hr.mono (by decide)) (pa_cons (pv 4) (pa_cons (pv 7) (pa_cons (pv 8) (pa_cons (pv 2) pa_nil)))))) (pv 5) (pv 4)) (nomark _)))))))))), ?_⟩
    refine ⟨_, rfl, _, _, _, _, _, rfl, .ty _, T.ty.of hd, T.ty.kTup d, _, rfl, ?_⟩
    cases ct : d.isTup with
    | false =>
      refine iteT ?_
      have r := hQ H (Same.refl H)
      rw [roundB_not ct] at r
      exact r
    | true =>
    obtain ⟨ds, rfl⟩ : ∃ ds, d = .tup ds := by
      cases d <;> first | exact ⟨_, rfl⟩ | cases ct
    obtain ⟨a, vs, rfl, ea, hrs⟩ := rep_tup hd
    have hlv := hrs.length
    refine iteF ⟨_, rfl, a, _, rfl, .inr (SqT.of ea), rfl, _, rfl, ?_⟩
    by_cases c3 : ¬ ds.length = 3
    · rw [decide_eq_false (show ¬ V.int (vs.length : Int) = V.int 3 from fun z => c3 (by injection z with z; omega))]
      refine iteT ?_
      have r := hQ H (Same.refl H)
      rw [roundB_len c3] at r
      exact r
    replace c3 : ds.length = 3 := Classical.not_not.mp c3
    rw [decide_eq_true (show V.int (vs.length : Int) = V.int 3 by rw [hlv, c3]; rfl)]
    refine iteF ?_
    refine ⟨_, rfl, a, rfl, ⟨_, SqT.of ea⟩, fun L nL => lc_tup (K := K) (a := a) (xs := vs) (fun i H' => Same H H' ∧ H' L = some (.lst (((ds.take i).map D.isInt).map V.bl)))
      ⟨Same.upd nL, upd_same⟩ (fun i H' _ ⟨s3, _⟩ => SqT.of (s3 _ _ ea)) ?_ ?_⟩
    · rintro i r H' hi ⟨s3, hD⟩
      obtain ⟨e, he, hre⟩ := hrs.getV hi
      refine ⟨rfl, Exists.intro _ ⟨rfl, M, r, e, rfl, hre.same s3, _, hD, ?_, ?_, ?_⟩⟩
      · rw [List.length_map, List.length_map, List.length_take, sizeLine_eq]
        omega
      · intro b o e1
        rw [upd_ne (ne_of_none e1 nL)]
        exact s3 _ _ e1
      · rw [upd_same, List.take_add_one, he]
        simp
    · rintro H1 ⟨s1, hD⟩
      rw [hlv, List.take_length] at hD
      refine ⟨L, _, rfl, SqL.of hD, _, rfl, ?_⟩
      have eal : (List.map D.isInt ds).all id = ds.all D.isInt := by rw [List.all_map]; rfl
      rw [eal]
      cases ca : ds.all D.isInt with
      | false =>
        refine iteT ?_
        have r := hQ H1 s1
        rw [roundB_all ca] at r
        exact r
      | true =>
      refine iteF ?_
      obtain ⟨is, rfl⟩ := all_ints ca
      rw [List.length_map] at c3
      match is, c3 with
      | [ia, ib, ic], _ =>
      obtain ⟨va, vb, vc, rfl, ra, rb, rc⟩ : ∃ va vb vc, vs = [va, vb, vc] ∧ va = .int ia ∧ vb = .int ib ∧ vc = .int ic := by
        match vs, hlv with
        | [va, vb, vc], _ =>
          have h1 := reps_cons.mp hrs
          have h2 := reps_cons.mp h1.2
          have h3 := reps_cons.mp h2.2
          exact ⟨va, vb, vc, rfl, rep_int h1.1, rep_int h2.1, rep_int h3.1⟩
      subst ra rb rc
      obtain ⟨fa, fb, fc, _⟩ : Bd 400 ia ∧ Bd 400 ib ∧ Bd 400 ic ∧ True := by
        unfold Fine at hf
        simp only [List.map_cons, List.map_nil, Fines, Fine] at hf
        exact hf
      have z1 := hx.same s1
      have z2 := hy.same s1
      have sa := Sz.int fa (by decide)
      have sb := Sz.int fb (by decide)
      have sta : Sz 500 (q * (ia : Rat)) := sq.mul2 sa
      have stb : Sz 500 (q * (ib : Rat)) := sq.mul2 sb
      have sbe : Sz 1001 (p - q * (ia : Rat)) := (sp.mono (by decide)).sub sta
      refine ⟨_, rfl, a, _, rfl, SqT.of (s1 _ _ ea), rfl, _, _, rfl, _, _, rfl, _, _, rfl, rfl, ?_⟩
      refine ⟨_, rfl, p, z1, _, rfl, q, z2, _, rfl, _, rfl, fun v2 H2 s2 n2 => ⟨_, _, _, _, rfl, z2.same s2, n2, sq.mono (by decide), sa.mono (by decide), fun v3 H3 s3 n3 => ⟨_, _, _, _, rfl, (z1.same s2).same s3, n3, sp.mono (by decide), sta.mono (by decide), fun v4 H4 s4 n4 => ?_⟩⟩⟩
      have s14 := (s2.trans s3).trans s4
      have s04 := s1.trans s14
      refine ⟨_, rfl, _, rfl, rfl, _, rfl, ?_⟩
      rw [int_dec]
      by_cases c4 : ia = ib
      · subst c4
        rw [decide_eq_true rfl]
        refine iteT ⟨_, rfl, _, rfl, rfl, _, rfl, ?_⟩
        rw [int_dec]
        have r := hQ H4 s04
        have e1 : roundB (p / q) z (.tup (List.map D.int [ia, ia, ic])) = (decide (ic = ia) && decide (p / q = (ia : Rat))) := round_same
        rw [e1] at r
        by_cases c5 : ic = ia
        · rw [decide_eq_true c5]
          rw [decide_eq_true c5, Bool.true_and] at r
          refine iteT ⟨_, rfl, _, n4, rfl, ?_⟩
          rw [int_dec]
          have e2 : decide ((p - q * (ia : Rat)).num = 0) = decide (p / q = (ia : Rat)) := decide_eq_decide.mpr (below_zero h0)
          rw [e2]
          exact r
        · rw [decide_eq_false c5]
          rw [decide_eq_false c5, Bool.false_and] at r
          exact iteF r
      rw [decide_eq_false c4]
      refine iteF ?_
      have sab : Sz 1001 (q * (ib : Rat) - p) := stb.sub (sp.mono (by decide))
      have y2 := (z2.same s14)
      have y1 := (z1.same s14)
      refine ⟨_, rfl, _, y2, _, rfl, _, rfl, fun v5 H5 s5 n5 => ⟨_, _, _, _, rfl, y2.same s5, n5, sq.mono (by decide), sb.mono (by decide), fun v6 H6 s6 n6 => ⟨_, n6, _, rfl, _, _, _, _, rfl, n6, (y1.same s5).same s6, stb.mono (by decide), sp.mono (by decide), fun v7 H7 s7 n7 => ?_⟩⟩⟩
      have s47 := (s5.trans s6).trans s7
      have s07 := s04.trans s47
      have r := hQ H7 s07
      have nb := n4.same s47
      have out : ¬ (ib = ia + 1 ∧ (ia : Rat) < p / q ∧ p / q < (ib : Rat)) → Q (.bl false) H7 := fun h => by
        have e1 : roundB (p / q) z (.tup (List.map D.int [ia, ib, ic])) = false := round_out c4 h
        rw [e1] at r
        exact r
      refine ⟨_, rfl, _, rfl, _, _, rfl, rfl, rfl, _, rfl, ?_⟩
      rw [int_dec]
      by_cases b1 : ¬ ib = ia + 1
      · rw [decide_eq_false b1]
        exact iteT (out fun z => b1 z.1)
      replace b1 : ib = ia + 1 := Classical.not_not.mp b1
      rw [decide_eq_true b1]
      refine iteF ⟨_, rfl, _, nb, _, _, rfl, rfl, _, rfl, ?_⟩
      have p1 := below_pos (p := p) (a := ia) h0
      by_cases b2 : ¬ (ia : Rat) < p / q
      · rw [decide_eq_true (show (p - q * (ia : Rat)).num ≤ 0 from Int.not_lt.mp fun z => b2 (p1.mp z))]
        exact iteT (out fun z => b2 z.2.1)
      replace b2 : (ia : Rat) < p / q := Classical.not_not.mp b2
      rw [decide_eq_false (show ¬ (p - q * (ia : Rat)).num ≤ 0 from Int.not_le.mpr (p1.mpr b2))]
      refine iteF ⟨_, rfl, _, n7, _, _, rfl, rfl, _, rfl, ?_⟩
      have p2 := above_pos (p := p) (a := ib) h0
      by_cases b3 : ¬ p / q < (ib : Rat)
      · rw [decide_eq_true (show (q * (ib : Rat) - p).num ≤ 0 from Int.not_lt.mp fun z => b3 (p2.mp z))]
        exact iteT (out fun z => b3 z.2.2)
      replace b3 : p / q < (ib : Rat) := Classical.not_not.mp b3
      rw [decide_eq_false (show ¬ (q * (ib : Rat) - p).num ≤ 0 from Int.not_le.mpr (p2.mpr b3))]
      refine iteF ?_
      subst b1
      refine ⟨_, rfl, _, rfl, _, rfl, _, rfl, _, rfl, ia, v4, v7, p, q, z, rfl, nb, n7, h0, sbe.mono (by decide), sab.mono (by decide), fun H8 s8 => ⟨_, rfl, ?_⟩⟩
      have r8 := hQ H8 (s07.trans s8)
      have e1 : roundB (p / q) z (.tup (List.map D.int [ia, ia + 1, ic])) = _ := round_between rfl b2 b3
      rw [e1] at r8
      cases cg : goes z ia (p / q - (ia : Rat)) with
      | true =>
        rw [cg, if_pos rfl] at r8
        refine iteT ⟨_, rfl, rfl, ?_⟩
        rw [int_dec]
        exact r8
      | false =>
        rw [cg, if_neg (by decide)] at r8
        refine iteF ⟨_, rfl, rfl, ?_⟩
        rw [int_dec]
        exact r8
end
end Fg
set_option Elab.async false
set_option linter.all false
set_option maxRecDepth 100000
set_option maxHeartbeats 1000000
/-! B6: zip of a list and a tuple, strict or not; the sum of a tuple of ints. -/
namespace FgZ
open PySem RZ
open PySem.Sem (wp)
/-- a zip object with its flag -/
abbrev ZF (b : Bool) (h : Heap) (z TI TO : Addr) (f0 : Value) : Prop := h.get? z = some { cls := .type "zip", data := .fields #[f0, .bool false, .bool b, .ref TI, .ref TO] }
theorem sameBut_of {x : Addr} {h h' : Heap} (e : Heap.SameBut x h h') {c : Addr} {o : Obj} (q : h.get? c = some o) (n : c ≠ x) : h'.get? c = some o := e.extBut c o n q
section
variable {prog : Program} {w : World} {A : Around} {E : Value → Shared → Prop} {s : Shared} {z TI TO i1 i2 : Addr} {fp1 fp2 : List Addr} {n1 n2 i : Nat} {P1 P2 : Nat → Value → Prop} {St1 St2 : Nat → Heap → Prop} {a1 a2 : Value}
/-- a strict zip asks an iterator that has an item -/
theorem ask_item {Q : Option Value → Shared → Prop} (D : Draws prog w A i1 fp1 n1 P1 St1) (lt : i < n1) (st : St1 i s.heap)
    (h : ∀ x h' tk, P1 i x → St1 (i + 1) h' → Heap.SameBut i1 s.heap h' → Q (some x) { s with heap := h', toks := tk }) : wpAny (model prog w) A (Builtin.SmallTypes.nextOrEnd (.ref i1)) Q E s := by
  unfold Builtin.SmallTypes.nextOrEnd
  exact wpAny_bind (wpAny_attempt (D.item i s _ _ lt st fun x h' tk p q e => wpAny_pure (h x h' tk p q e)))
/-- .. one that has none -/
theorem ask_none {Q : Option Value → Shared → Prop} (D : Draws prog w A i1 fp1 n1 P1 St1) (st : St1 n1 s.heap) (h : ∀ h', Heap.ExtBut i1 s.heap h' → Q none { s with heap := h' }) :
    wpAny (model prog w) A (Builtin.SmallTypes.nextOrEnd (.ref i1)) Q E s := by
  unfold Builtin.SmallTypes.nextOrEnd
  exact wpAny_bind (wpAny_attempt (D.done s _ _ st fun h' e b ⟨o, ho, hc⟩ => wpAny_bind (wpAny_isInstance (T := "StopIteration") (b := true) ⟨o, ho, hc⟩ isSubtype_stop (wpAny_pure (h h' b)))))
/-- all have ended: StopIteration, as a new object -/
theorem stop_raise {α : Type} {Q : α → Shared → Prop} (hh : A.handled = none) (h : ∀ h' e, (∀ c o, s.heap.get? c = some o → h'.get? c = some o) → (∃ o, h'.get? e = some o ∧ o.cls = .type "StopIteration") → E (.ref e) { s with heap := h' }) :
    wpAny (model prog w) A (Builtin.SmallTypes.stopIteration : Sem α) Q E s := by
  unfold Builtin.SmallTypes.stopIteration
  simp only [newExc, newTuple, raiseNew]
  refine wpAny_bind (wpAny_bind (wpAny_newObj_type (wpAny_bind (m := firstArgMember _ _) (wpAny_of_eq (a := Value.none) (by simp only [firstArgMember]; rfl) (wpAny_newObj_type ?_ (by size_fits)))) (by size_fits)))
  refine wpAny_bind (wpAny_handled ?_)
  rw [show A.in1.handled = none from hh]
  exact wpAny_bind (wpAny_pure (wpAny_throw (h _ _ (fun c o e => Heap.get?_push_of_some _ (Heap.get?_push_of_some _ e)) ⟨_, Heap.get?_push_size _ rfl, rfl⟩)))
/-- the owned tuple is free -/
theorem owned_free {b : Bool} {Q : Bool → Shared → Prop} (hz : ZF b s.heap z TI TO .none) (h : Q true s) : wpAny (model prog w) A (Builtin.SmallTypes.ownedTupleIsFree (.ref z)) Q E s := by
  unfold Builtin.SmallTypes.ownedTupleIsFree
  exact wpAny_bind (wpAny_field hz rfl (x := .none) rfl (wpAny_pure h))
/-- a turn of a strict zip -/
theorem strict_item {Q : Value → Shared → Prop} (S : ZipSep2 z TI TO i1 i2 fp1 fp2) (D1 : Draws prog w A i1 fp1 n1 P1 St1) (D2 : Draws prog w A i2 fp2 n2 P2 St2) (hz : ZF true s.heap z TI TO .none)
    (hI : IsTupOf2 s.heap TI (.ref i1) (.ref i2)) (hO : IsTupOf2 s.heap TO a1 a2) (u1 : St1 i s.heap) (u2 : St2 i s.heap) (lt1 : i < n1) (lt2 : i < n2)
    (hQ : ∀ x1 x2 h' tk, P1 i x1 → P2 i x2 → ZF true h' z TI TO (rawInt s.heap.objs.size) → IsTupOf2 h' TO x1 x2 → St1 (i + 1) h' → St2 (i + 1) h' → IsTupOf2 h' s.heap.objs.size x1 x2 →
      (∀ c o, c ∉ [z, TO, i1, i2] → s.heap.get? c = some o → h'.get? c = some o) → Q (.ref s.heap.objs.size) { s with heap := h', toks := tk }) :
    wpAny (model prog w) A (Builtin.«zip.__next__» ⟨[.ref z], []⟩) (fun fin s' => ∃ v, fin = .done (.ret v) ∧ Q v s') E s := by
  obtain ⟨hp, g, d, t0, os⟩ := s
  refine wpAny_bind (m := field (.ref z) 2) (wpAny_field hz rfl (x := .bool true) rfl (wpAny_bind (m := field (.ref z) 3) (wpAny_field hz rfl (x := .ref TI) rfl (wpAny_bind (wpAny_seqItems hI rfl ?_)))))
  refine wpAny_bind (m := Builtin.SmallTypes.ownedTupleIsFree (.ref z)) (owned_free hz ?_)
  simp only [if_true]
  refine wpAny_bind (wpAny_rule (wpAny_bind (wpAny_field hz rfl (x := .ref TO) rfl (wpAny_bind (wpAny_setField_rec hz (by simp) fun k0 zk0 b0 => wpAny_bind ?_)))))
  replace b0 : Heap.SameBut z hp k0 := b0
  replace zk0 : ZF true k0 z TI TO .ellipsis := zk0
  simp only [List.zipIdx_cons, List.zipIdx_nil, List.forIn_cons, List.forIn_nil]
  refine wpAny_bind (wpAny_bind (wpAny_onRaise (ask_item (s := ⟨k0, g, d, t0, os⟩) D1 lt1 (D1.over u1 b0 S.zf1) fun x1 k1 t1 p1 v1 b1 => ?_)))
  replace b1 : Heap.SameBut i1 k0 k1 := b1
  have O1 : IsTupOf2 k1 TO a1 a2 := sameBut_of b1 (sameBut_of b0 hO S.TOz) S.Ti1
  refine wpAny_bind (wpAny_seqItems (s := ⟨k1, g, d, t1, os⟩) O1 rfl (wpAny_bind (updateSeq_IsTupOf2 (s := ⟨k1, g, d, t1, os⟩) O1 fun k2 O2 b2 => wpAny_bind (wpAny_letGo (wpAny_pure ?_)))))
  replace b2 : Heap.SameBut TO k1 k2 := b2
  refine wpAny_bind (wpAny_bind (wpAny_onRaise (ask_item (s := ⟨k2, g, d, t1, os⟩) D2 lt2 (D2.over (D2.over (D2.over u2 b0 S.zf2) b1 S.sep1_2) b2 S.Tf2) fun x2 k3 t2 p2 v2 b3 => ?_)))
  replace b3 : Heap.SameBut i2 k2 k3 := b3
  have O3 : IsTupOf2 k3 TO x1 a2 := sameBut_of b3 O2 S.Ti2
  refine wpAny_bind (wpAny_seqItems (s := ⟨k3, g, d, t2, os⟩) O3 rfl (wpAny_bind (updateSeq_IsTupOf2 (s := ⟨k3, g, d, t2, os⟩) O3 fun k4 O4 b4 => wpAny_bind (wpAny_letGo (wpAny_pure (wpAny_pure ?_))))))
  replace b4 : Heap.SameBut TO k3 k4 := b4
  replace O4 : IsTupOf2 k4 TO x1 x2 := O4
  have sz : k4.objs.size = hp.objs.size := ((((b4.1).trans b3.1).trans b2.1).trans b1.1).trans b0.1
  have off : ∀ {c o}, c ≠ TO → c ≠ i1 → c ≠ i2 → k0.get? c = some o → k4.get? c = some o := fun nT n1 n2 e => sameBut_of b4 (sameBut_of b3 (sameBut_of b2 (sameBut_of b1 e n1) nT) n2) nT
  have zk4 : ZF true k4 z TI TO .ellipsis := off S.TOz.symm S.zi1 S.zi2 zk0
  have zlt : z < k4.objs.size := Heap.lt_size zk4
  refine wpAny_bind (wpAny_seqItems (s := ⟨k4, g, d, t2, os⟩) O4 rfl (wpAny_bind (wpAny_newTuple (wpAny_bind (m := Builtin.SmallTypes.ownedTupleHandOut (.ref z) (.ref k4.objs.size)) ?_))))
  unfold Builtin.SmallTypes.ownedTupleHandOut
  have zk5 : ZF true (k4.push { cls := .type "tuple", data := .seq #[x1, x2] }) z TI TO .ellipsis := Heap.get?_push_of_some _ zk4
  refine wpAny_bind (wpAny_setField_rec zk5 (by simp) fun k6 zk6 b6 => wpAny_setField_rec (show ZF true k6 z TI TO (rawInt k4.objs.size) from zk6) (by simp) fun k7 zk7 b7 => wpAny_pure ⟨_, rfl, ?_⟩)
  replace b6 : Heap.SameBut z (k4.push { cls := .type "tuple", data := .seq #[x1, x2] }) k6 := b6
  replace b7 : Heap.SameBut z k6 k7 := b7
  have up : ∀ {c o}, c ≠ z → (k4.push { cls := .type "tuple", data := .seq #[x1, x2] }).get? c = some o → k7.get? c = some o := fun n e => sameBut_of b7 (sameBut_of b6 e n) n
  have fin := hQ x1 x2 k7 t2 p1 p2
  rw [show Shared.heap ⟨hp, g, d, t0, os⟩ = hp from rfl, ← sz] at fin
  refine fin zk7 (up S.TOz (Heap.get?_push_of_some _ O4)) (D1.frame _ _ _ (D1.over (D1.over (D1.over v1 b2 S.Tf1) b3 S.sep2_1) b4 S.Tf1) fun b hb o e => up (fun q => S.zf1 (q ▸ hb)) (Heap.get?_push_of_some _ e))
    (D2.frame _ _ _ (D2.over v2 b4 S.Tf2) fun b hb o e => up (fun q => S.zf2 (q ▸ hb)) (Heap.get?_push_of_some _ e)) (up (Nat.ne_of_gt zlt) (Heap.get?_push_size _ rfl)) fun c o hc e => ?_
  simp only [List.mem_cons, List.not_mem_nil, or_false, not_or] at hc
  exact up hc.1 (Heap.get?_push_of_some _ (off hc.2.1 hc.2.2.1 hc.2.2.2 (sameBut_of b0 e hc.1)))
/-- a strict zip whose iterators have ended together -/
theorem strict_end {Q : Fin → Shared → Prop} (hh : A.handled = none) (S : ZipSep2 z TI TO i1 i2 fp1 fp2) (D1 : Draws prog w A i1 fp1 n1 P1 St1) (D2 : Draws prog w A i2 fp2 n2 P2 St2) (hz : ZF true s.heap z TI TO .none)
    (hI : IsTupOf2 s.heap TI (.ref i1) (.ref i2)) (hO : IsTupOf2 s.heap TO a1 a2) (u1 : St1 n1 s.heap) (u2 : St2 n2 s.heap)
    (hE : ∀ h' e, (∀ c o, c ∉ [z, TO, i1, i2] → s.heap.get? c = some o → h'.get? c = some o) → (∃ o, h'.get? e = some o ∧ o.cls = .type "StopIteration") → E (.ref e) { s with heap := h' }) :
    wpAny (model prog w) A (Builtin.«zip.__next__» ⟨[.ref z], []⟩) Q E s := by
  obtain ⟨hp, g, d, t0, os⟩ := s
  refine wpAny_bind (m := field (.ref z) 2) (wpAny_field hz rfl (x := .bool true) rfl (wpAny_bind (m := field (.ref z) 3) (wpAny_field hz rfl (x := .ref TI) rfl (wpAny_bind (wpAny_seqItems hI rfl ?_)))))
  refine wpAny_bind (m := Builtin.SmallTypes.ownedTupleIsFree (.ref z)) (owned_free hz ?_)
  simp only [if_true]
  refine wpAny_bind (wpAny_rule (wpAny_bind (wpAny_field hz rfl (x := .ref TO) rfl (wpAny_bind (wpAny_setField_rec hz (by simp) fun k0 zk0 b0 => wpAny_bind ?_)))))
  replace b0 : Heap.SameBut z hp k0 := b0
  replace zk0 : ZF true k0 z TI TO .ellipsis := zk0
  simp only [List.zipIdx_cons, List.zipIdx_nil, List.forIn_cons, List.forIn_nil]
  refine wpAny_bind (wpAny_bind (wpAny_onRaise (ask_none (s := ⟨k0, g, d, t0, os⟩) D1 (D1.over u1 b0 S.zf1) fun k1 b1 => ?_)))
  replace b1 : Heap.ExtBut i1 k0 k1 := b1
  have zk1 : ZF true k1 z TI TO .ellipsis := b1 _ _ S.zi1 zk0
  refine wpAny_bind (wpAny_setField_rec (s := ⟨k1, g, d, t0, os⟩) zk1 (by simp) fun k2 _ b2 => wpAny_bind (wpAny_bind (m := forIn (([.ref i1, .ref i2] : List Value).drop 1 |>.zipIdx 1) _ _) ?_))
  replace b2 : Heap.SameBut z k1 k2 := b2
  have u3 : St2 n2 k2 := D2.over (D2.frame _ _ _ (D2.over u2 b0 S.zf2) fun b hb o e => b1 b o (fun q => S.sep1_2 (q ▸ hb)) e) b2 S.zf2
  simp only [List.drop_succ_cons, List.drop_zero, List.zipIdx_cons, List.zipIdx_nil, List.forIn_cons, List.forIn_nil]
  refine wpAny_bind (wpAny_bind (ask_none (s := ⟨k2, g, d, t0, os⟩) D2 u3 fun k3 b3 => ?_))
  replace b3 : Heap.ExtBut i2 k2 k3 := b3
  simp only [Option.isSome_none, Bool.false_eq_true, if_false]
  refine wpAny_pure (wpAny_pure (wpAny_bind (wpAny_rule (stop_raise hh fun k4 e b4 he => hE k4 e (fun c o hc q => ?_) he))))
  simp only [List.mem_cons, List.not_mem_nil, or_false, not_or] at hc
  exact b4 _ _ (b3 _ _ hc.2.2.2 (sameBut_of b2 (b1 _ _ hc.2.2.1 (sameBut_of b0 q hc.1)) hc.1))
/-- next(z), an item -/
theorem zf_item {b : Bool} {Q : Option Value → Shared → Prop} (S : ZipSep2 z TI TO i1 i2 fp1 fp2) (D1 : Draws prog w A.in1 i1 fp1 n1 P1 St1) (D2 : Draws prog w A.in1 i2 fp2 n2 P2 St2) (hz : ZF b s.heap z TI TO .none)
    (hI : IsTupOf2 s.heap TI (.ref i1) (.ref i2)) (hO : IsTupOf2 s.heap TO a1 a2) (u1 : St1 i s.heap) (u2 : St2 i s.heap) (lt1 : i < n1) (lt2 : i < n2)
    (hQ : ∀ x1 x2 h' tk, P1 i x1 → P2 i x2 → ZF b h' z TI TO (rawInt s.heap.objs.size) → IsTupOf2 h' TO x1 x2 → St1 (i + 1) h' → St2 (i + 1) h' → IsTupOf2 h' s.heap.objs.size x1 x2 →
      (∀ c o, c ∉ [z, TO, i1, i2] → s.heap.get? c = some o → h'.get? c = some o) → Q (some (.ref s.heap.objs.size)) { s with heap := h', toks := tk }) : wpAny (model prog w) A (pyNext (.ref z)) Q E s := by
  cases b with
  | false =>
    refine wpAny_pyNext_zipD2_item S D1 D2 hz hI hO u1 u2 lt1 lt2 fun x1 x2 h' tk p1 p2 zz oo v1 v2 tt _ k => hQ x1 x2 h' tk p1 p2 zz oo v1 v2 tt fun c o hc => ?_
    simp only [List.mem_cons, List.not_mem_nil, or_false, not_or] at hc
    exact k c o hc.1 hc.2.1 hc.2.2.1 hc.2.2.2
  | true =>
    have ty : s.TypeIs (.ref z) "zip" := ⟨_, hz, rfl⟩
    unfold pyNext
    exact wpAny_bind (wpAny_attempt (wpAny_callSpecial?_slot (name := Str.ofString "__next__") ty F.slot_zip_next (wpAny_call_entry F.slot_zip_next ty F.entry_zip_next
      (strict_item S D1 D2 hz hI hO u1 u2 lt1 lt2 fun x1 x2 h' tk p1 p2 zz oo v1 v2 tt k => wpAny_pure (hQ x1 x2 h' tk p1 p2 zz oo v1 v2 tt k)) (F.args_zip_next_1 _))))
/-- next(z), both ended -/
theorem zf_end {b : Bool} {Q : Option Value → Shared → Prop} (hh : A.handled = none) (S : ZipSep2 z TI TO i1 i2 fp1 fp2) (D1 : Draws prog w A.in1 i1 fp1 i P1 St1) (D2 : Draws prog w A.in1 i2 fp2 i P2 St2) (hz : ZF b s.heap z TI TO .none)
    (hI : IsTupOf2 s.heap TI (.ref i1) (.ref i2)) (hO : IsTupOf2 s.heap TO a1 a2) (u1 : St1 i s.heap) (u2 : St2 i s.heap)
    (hQ : ∀ h' tk, (∀ c o, c ∉ [z, TO, i1, i2] → s.heap.get? c = some o → h'.get? c = some o) → Q none { s with heap := h', toks := tk }) : wpAny (model prog w) A (pyNext (.ref z)) Q E s := by
  cases b with
  | false =>
    refine wpAny_pyNext_zipD2_end S D1 D2 hz hI hO u1 u2 (Nat.le_refl _) (Nat.le_refl _) (.inl rfl) fun h' tk k => hQ h' tk fun c o hc => ?_
    simp only [List.mem_cons, List.not_mem_nil, or_false, not_or] at hc
    exact k c o hc.1 hc.2.1 hc.2.2.1 hc.2.2.2
  | true =>
    have ty : s.TypeIs (.ref z) "zip" := ⟨_, hz, rfl⟩
    unfold pyNext
    exact wpAny_bind (wpAny_attempt (wpAny_callSpecial?_slot (name := Str.ofString "__next__") ty F.slot_zip_next (wpAny_call_entry F.slot_zip_next ty F.entry_zip_next
      (strict_end hh S D1 D2 hz hI hO u1 u2 fun h' e k ⟨o, ho, hc⟩ => wpAny_bind (wpAny_isInstance (T := "StopIteration") (b := true) ⟨o, ho, hc⟩ isSubtype_stop (wpAny_pure (hQ h' _ k)))) (F.args_zip_next_1 _))))
/-- the pair is handed on: the zip's own tuple is free again -/
theorem zf_go {b : Bool} {elts : List Expr} {k : Nat} {pos : Pos} {T : Addr} {Q : Unit → Shared → Prop} (hz : ZF b s.heap z TI TO (rawInt T)) (hQ : ∀ h', ZF b h' z TI TO .none → Heap.SameBut z s.heap h' → Q () { s with heap := h' }) :
    wpAny (model prog w) A (letOwnedTupleGo (.Tuple elts k pos) (.ref z) (.ref T)) Q E s := by
  cases b with
  | false => exact wpAny_letOwnedTupleGo_zip hz hQ
  | true =>
    unfold letOwnedTupleGo
    refine wpAny_bind (wpAny_load hz ?_)
    simp only [List.contains_cons, List.contains_nil]
    rw [if_pos (by simp)]
    exact wpAny_bind (wpAny_rule (wpAny_setField_rec hz (by simp) hQ))
/-- iter(z) is z -/
theorem zf_iter {b : Bool} {f : Value} {Q : Value → Shared → Prop} (hz : ZF b s.heap z TI TO f) (h : Q (.ref z) s) : wpAny (model prog w) A (pyIter (.ref z)) Q E s := by
  have ty : s.TypeIs (.ref z) "zip" := ⟨_, hz, rfl⟩
  exact wpAny_pyIter_slot ty F.slot_zip_iter (wpAny_call_entry F.slot_zip_iter ty F.entry_zip_iter (wpAny_pure ⟨_, rfl, "zip", _, ty, F.slot_zip_next.lookup, h⟩) (F.args_zip_iter_1 _))
/-! ### zip(v1, v2, strict=True) -/
abbrev kwS : List (Str × Value) := [(Str.ofString "strict", .bool true)]
theorem typeCall_strict (v1 v2 : Value) : checkTypeCall "zip" ⟨[v1, v2], kwS⟩ = pure () := by kernel_rfl
theorem newCall_strict (v1 v2 : Value) : checkBuiltinCall "zip.__new__" ⟨[.type "zip", v1, v2], kwS⟩ = pure () := by kernel_rfl
theorem args_strict (obj v1 v2 : Value) : argsOk "object.__init__" ⟨[obj, v1, v2], kwS⟩ := by unfold argsOk; kernel_rfl
abbrev zS (h : Heap) (o1 o2 : Obj) : Heap := (gzO2 h o1 o2).push { cls := .type "zip", data := .fields #[.none, .bool false, .bool true, .ref ((h.push o1).push o2).objs.size, .ref (gzT2 h o1 o2).objs.size] }
theorem new_strict {v1 v2 : Value} {o1 o2 : Obj} {H1 H2 : Heap → Prop} (B1 : Begins v1 o1 H1) (B2 : Begins v2 o2 H2) :
    Meets (Builtin.«zip.__new__» ⟨[.type "zip", v1, v2], kwS⟩) (fun _ R s => (H1 s.heap ∧ H2 s.heap) ∧ R (.ok (.ret (.ref (gzO2 s.heap o1 o2).objs.size))) { s with heap := zS s.heap o1 o2 }) :=
  .of_wp fun prog w A R s h => by
    obtain ⟨hp, g, d, tk, os⟩ := s
    have sub := sub_zip
    have it1 : ∀ {A' : Around} {E : Value → Shared → Prop} {Q : Value → Shared → Prop}, Q (.ref hp.objs.size) ⟨hp.push o1, g, d, tk, os⟩ → wpAny (model prog w) A' (pyIter v1) Q E ⟨hp, g, d, tk, os⟩ := fun q => B1.iter prog w _ _ ⟨hp, g, d, tk, os⟩ _ h.1.1 q
    have it2 : ∀ {A' : Around} {E : Value → Shared → Prop} {Q : Value → Shared → Prop}, Q (.ref (hp.push o1).objs.size) ⟨(hp.push o1).push o2, g, d, tk, os⟩ → wpAny (model prog w) A' (pyIter v2) Q E ⟨hp.push o1, g, d, tk, os⟩ :=
      fun q => B2.iter prog w _ _ ⟨hp.push o1, g, d, tk, os⟩ _ (B2.keeps _ _ h.1.2 fun b o e => Heap.get?_push_of_some _ e) q
    have word : (Str.ofString "strict" != ("strict" : Str)) = false := by decide +kernel
    wp_walk using it1, it2
    exact ⟨_, rfl, h.2⟩
/-- the cells of a zip as it begins -/
structure Begun (b : Bool) (h h' : Heap) (o1 o2 : Obj) : Prop where
  z : ZF b h' (h.objs.size + 4) (h.objs.size + 2) (h.objs.size + 3) .none
  ins : IsTupOf2 h' (h.objs.size + 2) (.ref h.objs.size) (.ref (h.objs.size + 1))
  own : IsTupOf2 h' (h.objs.size + 3) .none .none
  it1 : h'.get? h.objs.size = some o1
  it2 : h'.get? (h.objs.size + 1) = some o2
  keep : ∀ c o, h.get? c = some o → h'.get? c = some o
theorem begun_strict (h : Heap) {o1 o2 : Obj} (f1 : o1.isFreed = false) (f2 : o2.isFreed = false) : (gzO2 h o1 o2).objs.size = h.objs.size + 4 ∧ Begun true h (zS h o1 o2) o1 o2 := by
  have up : ∀ {g : Heap} {c : Addr} {o q : Obj}, g.get? c = some q → (g.push o).get? c = some q := fun e => Heap.get?_push_of_some _ e
  have new : ∀ {g : Heap} {o : Obj} {k : Nat}, o.isFreed = false → g.objs.size = k → (g.push o).get? k = some o := fun {g o k} f e => by rw [← e]; exact Heap.get?_push_size _ f
  have e1 : (h.push o1).objs.size = h.objs.size + 1 := Heap.size_push ..
  have e2 : ((h.push o1).push o2).objs.size = h.objs.size + 2 := by rw [Heap.size_push, e1]
  have e3 : (gzT2 h o1 o2).objs.size = h.objs.size + 3 := by rw [Heap.size_push, e2]
  have e4 : (gzO2 h o1 o2).objs.size = h.objs.size + 4 := by rw [Heap.size_push, e3]
  refine ⟨e4, ?_, ?_, up (new (o := { cls := .type "tuple", data := .seq #[.none, .none] }) rfl e3), up (up (up (up (new f1 rfl)))), up (up (up (new f2 e1))), fun c o e => up (up (up (up (up e))))⟩
  · have q : (zS h o1 o2).get? (h.objs.size + 4) = some { cls := .type "zip", data := .fields #[.none, .bool false, .bool true, .ref ((h.push o1).push o2).objs.size, .ref (gzT2 h o1 o2).objs.size] } := new rfl e4
    exact q.trans (by rw [e2, e3])
  · have q : (zS h o1 o2).get? (h.objs.size + 2) = some { cls := .type "tuple", data := .seq #[.ref h.objs.size, .ref (h.push o1).objs.size] } := up (up (new rfl e2))
    exact q.trans (by rw [e1])
/-- zip(v1, v2) by the flag -/
theorem zf_begins {b : Bool} {v1 v2 : Value} {o1 o2 : Obj} {H1 H2 : Heap → Prop} {Q : Value → Shared → Prop} (B1 : Begins v1 o1 H1) (B2 : Begins v2 o2 H2) (h1 : H1 s.heap) (h2 : H2 s.heap)
    (h : ∀ h', Begun b s.heap h' o1 o2 → Q (.ref (s.heap.objs.size + 4)) { s with heap := h' }) : wpAny (model prog w) A (call (.type "zip") [v1, v2] (if b then kwS else [])) Q E s := by
  cases b with
  | false => exact zip_begins2 B1 B2 h1 h2 fun h' zz ii oo x1 x2 _ k => h h' ⟨zz, ii, oo, x1, x2, k⟩
  | true =>
    obtain ⟨e, B⟩ := begun_strict s.heap B1.free B2.free
    refine callType_newKw F.called_zip (by decide) (typeCall_strict _ _) (newCall_strict _ _) (fun obj => args_strict obj _ _) F.entry_zip_new (new_strict B1 B2) ⟨⟨h1, h2⟩, ?_⟩
    show _ ∧ _
    rw [e]
    exact ⟨⟨_, B.z, rfl⟩, h _ B⟩
end
end FgZ
namespace FgZ
open PySem PySem.Spec PyProof.Rows L2 RZ
/-- the list at a and the tuple at t, their items in new pairs; told to end where both end -/
def ItzM (K : PySem.W.Frag) (a t : Addr) : It where
  go := fun i H => ∃ (xs ys : List V) (x y : V), (SqL K H a xs ∧ xs[i]? = some x) ∧ SqT K H t ys ∧ ys[i]? = some y
  yld := fun i H v H' => ∃ T x y, v = .ref T ∧ H T = none ∧ H' = upd H T (.tup [x, y]) ∧ (∀ xs, SqL K H a xs → xs[i]? = some x) ∧ ∀ ys, SqT K H t ys → ys[i]? = some y
  stop := fun i H => ∃ xs ys : List V, (SqL K H a xs ∧ xs.length = i) ∧ SqT K H t ys ∧ ys.length = i
/-- a zip's cells at turn i -/
structure ZAt (b : Bool) (z TI TO i1 i2 a t : Addr) (i : Nat) (h : Heap) : Prop where
  z : ZF b h z TI TO .none
  ins : IsTupOf2 h TI (.ref i1) (.ref i2)
  own : ∃ x y, IsTupOf2 h TO x y
  it1 : h.IsListIter i1 a i
  it2 : h.IsTupleIter i2 t i
section
variable {b : Bool} {z TI TO i1 i2 a t : Addr} {i : Nat} {h h' : Heap}
theorem ZAt.obj (Z : ZAt b z TI TO i1 i2 a t i h) : ∀ c ∈ [z, TI, TO, i1, i2], ∃ o, h.get? c = some o ∧ ∀ v, o.data ≠ .cell v := by
  obtain ⟨zz, ii, ⟨x, y, oo⟩, ⟨o1, e1, _, d1⟩, o2, e2, _, d2⟩ := Z
  simp only [List.forall_mem_cons]
  exact ⟨⟨_, zz, fun v => nofun⟩, ⟨_, ii, fun v => nofun⟩, ⟨_, oo, fun v => nofun⟩, ⟨o1, e1, fun v => by rw [d1]; exact nofun⟩, ⟨o2, e2, fun v => by rw [d2]; exact nofun⟩, fun c hc => nomatch hc⟩
theorem ZAt.move (Z : ZAt b z TI TO i1 i2 a t i h) (k : ∀ c ∈ [z, TI, TO, i1, i2], ∀ o, h.get? c = some o → h'.get? c = some o) : ZAt b z TI TO i1 i2 a t i h' := by
  simp only [List.forall_mem_cons] at k
  obtain ⟨k1, k2, k3, k4, k5, _⟩ := k
  obtain ⟨zz, ii, ⟨x, y, oo⟩, x1, x2⟩ := Z
  exact ⟨k1 _ zz, k2 _ ii, ⟨x, y, k3 _ oo⟩, x1.at k4, x2.at k5⟩
end
section
variable {P : Program} {w : World} {K : PySem.W.Frag} {b : Bool} {z TI TO i1 i2 a t : Addr}
theorem turn_zf {elts : List Expr} {kk : Nat} {tpos : Pos} (S : ZipSep2 z TI TO i1 i2 [i1, a] [i2, t]) (na : a ≠ i1) (nt : t ≠ i2) : Turn P w K (.Tuple elts kk tpos) (ItzM K a t) [z, TI, TO, i1, i2] z (ZAt b z TI TO i1 i2 a t) where
  mem := List.mem_cons_self
  obj := fun i h Z => Z.obj
  keep := fun i h h' Z k => Z.move k
  self := fun A i s Q E Z h => zf_iter Z.z h
  done := fun X hP hw hK hc i pins s σ H E I hf Z ⟨xs, ys, ⟨qx, ex⟩, qy, ey⟩ => by
    subst hP hw hK
    obtain ⟨x0, y0, oo⟩ := Z.own
    obtain ⟨its, rv, p, _⟩ := I.list qx
    obtain ⟨its2, rv2, p2, _⟩ := I.tuple qy
    have D1 := Draws.list (prog := X.prog) (w := X.w) (A := X.A.in1) (I.ok.hd hc) i1 a na its.toArray
    have D2 := Draws.tuple (prog := X.prog) (w := X.w) (A := X.A.in1) (I.ok.hd hc) i2 t nt its2.toArray
    rw [List.size_toArray, ← rv.length, ex] at D1
    rw [List.size_toArray, ← rv2.length, ey] at D2
    refine zf_end (I.ok.hd hc) S D1 D2 Z.z Z.ins oo ⟨Z.it1, p.isList⟩ ⟨Z.it2, p2⟩ fun h' tk k => ⟨rfl, I.turnedL (ch := [z, TI, TO, i1, i2]) (fun c o hn e => k c o (fun q => hn ?_) e) hf⟩
    exact (by simpa using q : c = z ∨ c = TO ∨ c = i1 ∨ c = i2).elim (fun e => by simp [e]) fun q => by rcases q with e | e | e <;> simp [e]
  item := fun X hP hw hK hc i pins s σ H E I hf Z ⟨xs, ys, x, y, ⟨qx, hx⟩, qy, hy⟩ => by
    subst hP hw hK
    obtain ⟨x0, y0, oo⟩ := Z.own
    obtain ⟨its, rv, p, _⟩ := I.list qx
    obtain ⟨its2, rv2, p2, _⟩ := I.tuple qy
    obtain ⟨u, hu, ru⟩ := rv.get hx
    obtain ⟨u2, hu2, ru2⟩ := rv2.get hy
    have lt1 : i < its.toArray.size := by rw [List.size_toArray]; exact (List.getElem?_eq_some_iff.mp hu).1
    have lt2 : i < its2.toArray.size := by rw [List.size_toArray]; exact (List.getElem?_eq_some_iff.mp hu2).1
    have D1 := Draws.list (prog := X.prog) (w := X.w) (A := X.A.in1) (I.ok.hd hc) i1 a na its.toArray
    have D2 := Draws.tuple (prog := X.prog) (w := X.w) (A := X.A.in1) (I.ok.hd hc) i2 t nt its2.toArray
    refine zf_item S D1 D2 Z.z Z.ins oo ⟨Z.it1, p.isList⟩ ⟨Z.it2, p2⟩ lt1 lt2 fun v1 v2 h1 tk g1 g2 zz o1 d1 d2 new k => ⟨_, rfl, zf_go (s := { s with heap := h1, toks := tk }) zz fun h2 zz2 sb => ?_⟩
    rw [List.getElem?_toArray, hu] at g1
    rw [List.getElem?_toArray, hu2] at g2
    cases g1
    cases g2
    replace sb : Heap.SameBut z h1 h2 := sb
    have old : ∀ {c : Addr}, c ∈ [z, TI, TO, i1, i2] → c < s.heap.objs.size := fun hc => by
      obtain ⟨o, e, _⟩ := Z.obj _ hc
      exact Heap.lt_size e
    have mv : ∀ {c o}, c ≠ z → h1.get? c = some o → h2.get? c = some o := fun n e => sameBut_of sb e n
    have all : ∀ c o, c ∉ [z, TI, TO, i1, i2] → s.heap.get? c = some o → h2.get? c = some o := fun c o hn e => by
      simp only [List.mem_cons, List.not_mem_nil, or_false, not_or] at hn
      exact mv hn.1 (k c o (by simp [hn]) e)
    have newT : h2.get? s.heap.objs.size = some { cls := .type "tuple", data := .seq #[u, u2] } := mv (Nat.ne_of_gt (old List.mem_cons_self)) new
    refine ⟨.ref s.heap.objs.size, upd H s.heap.objs.size (.tup [x, y]), I.turnedNew (ch := [z, TI, TO, i1, i2]) all hf (Nat.le_refl _) ⟨by show 2 ≤ sizeLine; decide, [u, u2], .cons ru (.cons ru2 .nil), _, newT, rfl, _, rfl⟩, rfl,
      ⟨_, x, y, rfl, I.hok.fresh (Nat.le_refl _), rfl, fun l hl => by rw [I.list_inj hl qx]; exact hx, fun l hl => by rw [I.tuple_inj hl qy]; exact hy⟩, ⟨zz2, mv S.TIz (k _ _ (by simp [S.TIz, S.TITO, S.TIi1, S.TIi2]) Z.ins), ⟨_, _, mv S.TOz o1⟩, d1.1.at fun o e => mv S.zi1.symm e, d2.1.at fun o e => mv S.zi2.symm e⟩, fun c hc => ?_⟩
    rw [upd_ne (Nat.ne_of_lt (old hc))]
    exact (hf c hc).1
end
section
variable {X : Cx} {pins : List (Addr × Obj)} {σ : L2.St} {H : Hp} {s : Shared} {a t : Addr} {xs ys : List V} {R : It → Hp → Prop} {elts : List Expr} {kk : Nat} {tpos : Pos}
theorem sep_new (n l1 l2 : Nat) (h1 : l1 < n) (h2 : l2 < n) : ZipSep2 (n + 4) (n + 2) (n + 3) n (n + 1) [n, l1] [n + 1, l2] := by
  constructor <;> simp only [List.mem_cons, List.not_mem_nil, or_false, not_or, ne_eq] <;> (try constructor) <;> (try exact trivial) <;> (first | exact .inl rfl | (refine fun e => absurd (show (_ : Nat) = _ from e) ?_; omega))
/-- zip(a, t), zip(a, t, strict=True), and iter of it -/
theorem zf_start (b : Bool) (I : Inv X pins σ H s) (qx : SqL X.K H a xs) (qy : SqT X.K H t ys) (q : R (ItzM X.K a t) H) :
    wpAny (model X.prog X.w) X.A (call (.type "zip") [.ref a, .ref t] (if b then kwS else [])) (fun v s2 => wpAny (model X.prog X.w) X.A (pyIter v) (PIE X pins σ (.Tuple elts kk tpos) R) X.xe s2) X.xe s := by
  obtain ⟨its, rv, p, _⟩ := I.list qx
  obtain ⟨its2, rv2, p2, _⟩ := I.tuple qy
  have la : a < s.heap.objs.size := p.lt
  have lt : t < s.heap.objs.size := by
    obtain ⟨o, e, _⟩ := id p2
    exact Heap.lt_size e
  refine zf_begins (begins_list a its.toArray) (begins_tuple t its2.toArray) p.isList p2 fun h' B => zf_iter B.z ?_
  have S := sep_new s.heap.objs.size a t la lt
  refine ⟨_, _, ZAt b (s.heap.objs.size + 4) (s.heap.objs.size + 2) (s.heap.objs.size + 3) s.heap.objs.size (s.heap.objs.size + 1) a t, ItzM X.K a t, H, rfl, I.kept (t' := s.toks) B.keep, turn_zf S (Nat.ne_of_lt la) (Nat.ne_of_lt (Nat.lt_succ_of_lt lt)),
    ⟨B.z, B.ins, ⟨_, _, B.own⟩, ⟨_, B.it1, rfl, rfl⟩, ⟨_, B.it2, rfl, rfl⟩⟩, fun c hc => ?_, q⟩
  have hle : s.heap.objs.size ≤ c := by
    simp only [List.mem_cons, List.not_mem_nil, or_false] at hc
    rcases hc with e | e | e | e | e <;> (rw [e]; first | exact Nat.le_add_right _ _ | exact Nat.le_refl _)
  exact I.fpOk hle (I.hok.fresh hle)
end
def iZipM (K : PySem.W.Frag) (ta : TA) : TI := fun σ H R => ta σ H fun vs H1 => ∃ a b xs ys, vs = [.ref a, .ref b] ∧ SqL K H1 a xs ∧ SqT K H1 b ys ∧ R (ItzM K a b) H1
theorem refs2 {a b : Addr} {us : List Value} (r : Vals [V.ref a, V.ref b] us) : us = [.ref a, .ref b] := by
  cases r with
  | cons h1 r =>
    cases r with
    | cons h2 r =>
      cases r
      cases h1
      cases h2
      rfl
theorem pi_zipM {X : Cx} {e e2 : Expr} {ta : TA} {p pos tpos : Pos} {elts : List Expr} {kk : Nat} (hg : Gl X "zip") (hm : X.mg "zip" = none) (ha : PA X [e, e2] ta)
    (hs : starEach [e, e2] X.env = (false, eval e X.env) :: starEach [e2] X.env := by rfl) (hp : (backTo pos (starEach [e2] X.env)).any (·.1) = false := by rfl) : PI X (.Tuple elts kk tpos) (.Call (.Name "zip" p) [e, e2] [] pos) (iZipM X.K ta) :=
  ⟨fun pins s σ H R I h => Call_ (ld_blt I hg hm PyProof.Rows.boot_zip (PyProof.Rows.callWith_type1 (thn (ha.run pos pins s σ H _ I h) fun us s1 ⟨vs, H1, I1, r, a, b, xs, ys, ev, hx, hy, q⟩ => by
    subst ev
    rw [refs2 r]
    exact zf_start false I1 hx hy q) hs hp))⟩
/-- a call of a built-in class with keywords -/
theorem callWith_tkw {M : Model} {A : Around} {E : Value → Shared → Prop} {s : Shared} {env : Env} {pos : Pos} {T : String} {e : Expr} {rest : List Expr} {kws : List Keyword} {Q : Value → Shared → Prop}
    (h : wpAny M A (spliced (backTo pos (starEach (e :: rest) env))) (fun vs s₁ => wpAny M A (evalAll ((backToKw pos (keywordEach kws env)).map (·.2))) (fun ks s₂ => wpAny M A (call (.type T) vs (((backToKw pos (keywordEach kws env)).filterMap (·.1)).zip ks)) Q E s₂) E s₁) E s)
    (he : backTo pos (starEach (e :: rest) env) = (false, eval e env) :: backTo pos (starEach rest env)) (hp : (backTo pos (starEach (e :: rest) env)).any (·.1) = false)
    (hall : (backToKw pos (keywordEach kws env)).all (·.1.isSome) = true) (hk : (backToKw pos (keywordEach kws env)).any (·.1.isNone) = false) : wpAny M A (callWith pos (.type T) [] (backTo pos (starEach (e :: rest) env)) (backToKw pos (keywordEach kws env))) Q E s := by
  have args : wpAny M A (evalArgs (.type T) true (backTo pos (starEach (e :: rest) env)) (backToKw pos (keywordEach kws env))) (fun x s₁ => wpAny M A (call (.type T) ([] ++ x.pos) x.kw) Q E s₁) E s := by
    rw [he] at h ⊢
    exact evalArgs_kwB hall h
  unfold callWith
  refine wpAny_bind (wpAny_holding (wpAny_mono args (fun x s₁ h₁ => wpAny_bind (wpAny_standAt ?_)) fun _ _ z => z))
  simp only [hp, hk, Bool.or_false]
  exact wpAny_bind (wpAny_pure (wpAny_bind (wpAny_mono h₁ (fun r s₂ hr => wpAny_bind (wpAny_holding (wpAny_point (wpAny_pure hr)))) fun _ _ z => z)))
def iZipS (K : PySem.W.Frag) (ta tk : TA) : TI := fun σ H R => ta σ H fun vs H1 => tk σ H1 fun zs H2 => ∃ a b xs ys, zs = [.bl true] ∧ vs = [.ref a, .ref b] ∧ SqL K H2 a xs ∧ SqT K H2 b ys ∧ R (ItzM K a b) H2
theorem pi_zipS {X : Cx} {e e2 : Expr} {ta tk : TA} {p pos tpos : Pos} {elts : List Expr} {kk : Nat} {kws : List Keyword} (hg : Gl X "zip") (hm : X.mg "zip" = none) (ha : PA X [e, e2] ta) (hk : PK X kws tk)
    (hall : (backToKw pos (keywordEach kws X.env)).all (·.1.isSome) = true := by rfl) (hks : (backToKw pos (keywordEach kws X.env)).filterMap (·.1) = [Str.ofString "strict"] := by rfl) (hn : (backToKw pos (keywordEach kws X.env)).any (·.1.isNone) = false := by rfl)
    (hs : backTo pos (starEach [e, e2] X.env) = (false, eval e X.env) :: backTo pos (starEach [e2] X.env) := by rfl) (hp : (backTo pos (starEach [e, e2] X.env)).any (·.1) = false := by rfl) :
    PI X (.Tuple elts kk tpos) (.Call (.Name "zip" p) [e, e2] kws pos) (iZipS X.K ta tk) :=
  ⟨fun pins s σ H R I h => wpAny_Call_Name_kw (ld_blt I hg hm PyProof.Rows.boot_zip (callWith_tkw (thn (ha.run pos pins s σ H _ I h) fun us s1 ⟨vs, H1, I1, r1, q1⟩ =>
    thn (hk.run pos pins s1 σ H1 _ I1 q1) fun ws s2 ⟨zs, H2, I2, rz, a, b, xs, ys, ez, ev, hx, hy, q⟩ => by
      subst ez ev
      rw [hks, refs2 r1]
      cases rz with
      | cons r3 rr =>
        cases rr
        cases r3
        exact zf_start true I2 hx hy q) hs hp hall hn) (by decide) (by decide))⟩
theorem walkM {K : PySem.W.Frag} {a b : Addr} {xs ys : List V} {n : Nat} (h1 : xs.length = n) (h2 : ys.length = n) : Walk (ItzM K a b) n (fun H => SqL K H a xs ∧ SqT K H b ys) (YPair (fun i => xs[i]?) (fun i => ys[i]?)) := by
  refine ⟨fun i _ hi q => ⟨xs, ys, xs[i]'(by omega), ys[i]'(by omega), ⟨q.1, by simp⟩, q.2, by simp⟩, fun _ q => ⟨xs, ys, ⟨q.1, h1⟩, q.2, h2⟩, fun i H v H' _ q ⟨T, x, y, e1, e2, e3, e4, e5⟩ => ?_⟩
  exact ⟨T, x, y, e1, e2, e3, e4 xs q.1, e5 ys q.2⟩
/-- sum of a tuple of ints -/
def rSumT (K : PySem.W.Frag) : List V → Hp → VK → Prop := fun vs H Q => ∃ (a : Addr) (ns : List Int), vs = [V.ref a] ∧ SqT K H a (ns.map V.int) ∧ Q (.int ns.sum) H
theorem cr_sumT {X : Cx} (hc : X.calm = true) : CallR X (.builtin "sum") (rSumT X.K) := fun pins s σ H vs us Q I r ⟨a, ns, ev, hs, q⟩ => by
  subst ev
  obtain ⟨its, rv, hl, _⟩ := I.tuple hs
  rw [Vals.ref1 r]
  have hn : numsOf its.toArray.toList = ns := rv.ints.numsOf
  obtain ⟨xs, hx⟩ := rv.ints.allInts.items
  rw [hx] at hl hn
  rw [nums_intItems] at hn
  refine PySem.W.ktm_sumG (I.ok.hd hc) hl fun h' tk t' hk => ⟨.int _, H, I.kept hk, ⟨_, rfl⟩, ?_⟩
  rw [preSum_eq, List.take_of_length_le (by simp), hn]
  exact q
end FgZ
set_option Elab.async false
set_option linter.all false
set_option maxRecDepth 100000
set_option maxHeartbeats 1000000
/-! D8: sum_holds. -/
namespace Fg
open PySem PySem.Spec PyProof.Rows L2
def thrB : D → Bool
  | .num t => decide (0 ≤ t) && decide (t ≤ 1)
  | _ => false
theorem not_lt_dec (p q : Rat) : (!decide (p < q)) = decide (q ≤ p) := by
  by_cases h : p < q
  · rw [decide_eq_true h, decide_eq_false (Rat.not_le.mpr h)]
    rfl
  · rw [decide_eq_false h, decide_eq_true (Rat.not_lt.mp h)]
    rfl
section
variable {P : Program} {w : World} {K : PySem.W.Frag} {mg : Str → Option Value} {base : Heap}
def sp_thr (K : PySem.W.Frag) : Sp := fun vs H Q _ => ∃ (M : Addr → Prop) (v : V) (d : D), vs = [v] ∧ Rep (CN K) M H v d ∧ Fine 400 d ∧ ∀ H', Same H H' → Q (.bl (thrB d)) H'
theorem sc_is_threshold : FnScope ["thing"] ["thing"] (defScope s_is_threshold) := ⟨rfl, rfl, rfl, by decide +kernel, rfl, by decide +kernel, by decide +kernel⟩
theorem ok_is_threshold (T : Tx w K mg) : DefOk P w K mg base "is_threshold" 5 [] (sp_thr K) := by
  obtain ⟨fd, F⟩ := T.q_is_threshold
  refine DefOk.of (ps := ["thing"]) F T.g_is_threshold (fun _ _ _ _ _ _ us hl => match us, hl with | [_], _ => rfl) (FunD.ok0 F sc_is_threshold (fun vs H Q E h => ?_) (fun cdv A outer s H vs Q E hr h => ?_))
  · obtain ⟨M, v, d, rfl, _⟩ := h
    rfl
  · obtain ⟨M, v, d, rfl, hd, hf, hQ⟩ := h
    refine ⟨_, (pss_one (ps_ret (pe_and (pe_callB call_isi (by rfl) T.n_isinstance (by decide +kernel) (pa_cons (pv 0) (pa_cons (pe_num T) pa_nil))) (pe_and (pe_not (pe_M_below T (hr.mono (by decide)) (pv 0) (pa_cons (pe_N1 T (hr.mono (by decide)) (pa_cons pe_int pa_nil)) pa_nil))) (pe_one (pe_not (pe_M_below T (hr.mono (by decide)) (pe_N1 T (hr.mono (by decide)) (pa_cons pe_int pa_nil)) (pa_cons (pv 0) pa_nil)))))))), ?_⟩
    refine ⟨_, rfl, _, _, _, _, _, rfl, .own _, T.ty.of hd, T.ty.kNum d, _, rfl, ?_⟩
    cases c : d.isNum with
    | false =>
      have e : thrB d = false := by cases d <;> first | rfl | cases c
      rw [e] at hQ
      exact iteF (hQ H (Same.refl H))
    | true =>
      obtain ⟨t, rfl⟩ : ∃ t, d = .num t := by cases d <;> first | exact ⟨_, rfl⟩ | cases c
      have hn : NumV (CN K) H v t := by unfold Rep at hd; exact hd
      have sz : Sz 400 t := by unfold Fine at hf; exact hf
      refine iteT ⟨_, rfl, t, hn, _, rfl, fun v1 H1 s1 n1 => ⟨_, _, _, _, rfl, hn.same s1, n1, sz.mono (by decide), sz_zero.mono (by decide), _, rfl, _, rfl, ?_⟩⟩
      have e0 : (!decide (t < ((0 : Int) : Rat))) = decide (0 ≤ t) := not_lt_dec t 0
      rw [e0]
      by_cases c0 : 0 ≤ t
      · rw [decide_eq_true c0]
        refine iteT ⟨_, rfl, fun v2 H2 s2 n2 => ⟨_, n2, _, rfl, _, _, _, _, rfl, n2, (hn.same s1).same s2, (show Sz 1 (1 : Rat) from ⟨by unfold Bd; decide, by unfold Bd; decide⟩).mono (by decide), sz.mono (by decide), _, rfl, ?_⟩⟩
        have e1 : (!decide (((1 : Int) : Rat) < t)) = decide (t ≤ 1) := not_lt_dec 1 t
        rw [e1]
        have q := hQ H2 (s1.trans s2)
        unfold thrB at q
        simp only at q
        rw [decide_eq_true c0, Bool.true_and] at q
        exact q
      · rw [decide_eq_false c0]
        have q := hQ H1 s1
        unfold thrB at q
        simp only at q
        rw [decide_eq_false c0, Bool.false_and] at q
        exact iteF q
/-! ### is_put_so -/
def sp_put (K : PySem.W.Frag) : Sp := fun vs H Q _ => ∃ (r : Addr) (y th : V) (x t : Rat) (c : Int), vs = [.ref r, .int c, th] ∧ H r = some (.tup [.int x.floor, y]) ∧ NumV (CN K) H y (fr x) ∧ NumV (CN K) H th t ∧ Sz 1000 (fr x) ∧ Sz 1000 t ∧ ∀ H', Same H H' → Q (.bl (putOk x c t)) H'
theorem sc_is_put_so : FnScope ["row", "count", "threshold", "low", "beyond"] ["row", "count", "threshold"] (defScope s_is_put_so) := ⟨rfl, rfl, rfl, by decide +kernel, rfl, by decide +kernel, by decide +kernel⟩
theorem ok_is_put_so (T : Tx w K mg) : DefOk P w K mg base "is_put_so" 5 [] (sp_put K) := by
  obtain ⟨fd, F⟩ := T.q_is_put_so
  refine DefOk.of (ps := ["row", "count", "threshold"]) F T.g_is_put_so (fun _ _ _ _ _ _ us hl => match us, hl with | [_, _, _], _ => rfl) (FunD.ok0 F sc_is_put_so (fun vs H Q E h => ?_) (fun cdv A outer s H vs Q E hr h => ?_))
  · obtain ⟨r, y, th, x, t, c, rfl, _⟩ := h
    rfl
  · obtain ⟨r, y, th, x, t, c, rfl, hrow, hy, hth, sx, st, hQ⟩ := h
    refine ⟨_, (pss_cons (ps_asg (pv 0) (pg_tup (by rfl) (pgs_cons (pg_name (i := 3) sc_is_put_so.nd rfl (Or.inl rfl)) (pgs_cons (pg_name (i := 4) sc_is_put_so.nd rfl (Or.inl rfl)) pgs_nil))))
      (pss_cons (ps_if (pt_cmpR op_eq (pv 1) (pv 3) (nomark _)) (pss_one (ps_ret (pe_or (pe_cmpR (op_eqN T (hr.mono (by decide))) (pv 4) (pe_N1 T (hr.mono (by decide)) (pa_cons pe_int pa_nil)) (nomark _)) (pe_one (pe_not (pe_M_below T (hr.mono (by decide)) (pv 2) (pa_cons (pv 4) pa_nil))))))) pss_nil)
      (pss_one (ps_ret (pe_and (pe_cmpR op_eq (pv 1) (pe_op op_add (pv 3) pe_int) (nomark _)) (pe_and (pe_cmpR (op_neN T (hr.mono (by decide))) (pv 4) (pe_N1 T (hr.mono (by decide)) (pa_cons pe_int pa_nil)) (nomark _)) (pe_one (pe_not (pe_M_below T (hr.mono (by decide)) (pv 4) (pa_cons (pv 2) pa_nil)))))))))), ?_⟩
    refine ⟨_, rfl, r, _, rfl, SqT.of hrow, rfl, _, _, rfl, _, _, rfl, rfl, ?_⟩
    refine ⟨_, rfl, _, rfl, rfl, _, rfl, ?_⟩
    rw [int_dec]
    unfold putOk at hQ
    by_cases c0 : c = x.floor
    · rw [if_pos c0] at hQ
      rw [decide_eq_true c0]
      refine iteT ⟨_, rfl, _, rfl, fun v1 H1 s1 n1 => ⟨_, _, hy.same s1, n1, _, rfl, ?_⟩⟩
      have e0 : decide (fr x = ((0 : Int) : Rat)) = decide (fr x = 0) := rfl
      rw [e0]
      have q := hQ H1 s1
      by_cases c1 : fr x = 0
      · rw [decide_eq_true c1] at q ⊢
        exact iteT q
      · rw [decide_eq_false c1] at q ⊢
        exact iteF ⟨_, rfl, _, hth.same s1, _, rfl, _, _, _, _, rfl, hth.same s1, hy.same s1, st.mono (by decide), sx.mono (by decide), _, rfl, q⟩
    · rw [if_neg c0] at hQ
      rw [decide_eq_false c0]
      refine iteF ⟨_, rfl, _, rfl, _, _, rfl, rfl, rfl, _, rfl, ?_⟩
      rw [int_dec]
      by_cases c1 : c = x.floor + 1
      · rw [decide_eq_true c1] at hQ ⊢
        refine iteT ⟨_, rfl, _, rfl, fun v1 H1 s1 n1 => ⟨_, _, hy.same s1, n1, _, rfl, ?_⟩⟩
        have e0 : decide (fr x = ((0 : Int) : Rat)) = decide (fr x = 0) := rfl
        rw [e0]
        have q := hQ H1 s1
        by_cases c2 : fr x = 0
        · rw [decide_eq_true c2] at q ⊢
          exact iteF q
        · rw [decide_eq_false c2] at q ⊢
          exact iteT ⟨_, rfl, _, hy.same s1, _, rfl, _, _, _, _, rfl, hy.same s1, hth.same s1, sx.mono (by decide), st.mono (by decide), _, rfl, q⟩
      · rw [decide_eq_false c1] at hQ ⊢
        exact iteF (hQ H (Same.refl H))
/-! ### sum_holds -/
def intsOf : List D → Option (List Int)
  | [] => some []
  | .int i :: r => (intsOf r).map (i :: ·)
  | _ :: _ => none
theorem intsOf_map (cs : List Int) : intsOf (cs.map D.int) = some cs := by
  induction cs with
  | nil => rfl
  | cons c r ih => simp only [List.map_cons, intsOf, ih, Option.map_some]
theorem intsOf_none : ∀ {ds : List D}, ds.all D.isInt = false → intsOf ds = none
  | [], h => by cases h
  | d :: r, h => by
    cases d <;> first | rfl | skip
    rename_i i
    have h2 : r.all D.isInt = false := by simpa [List.all_cons, D.isInt] using h
    simp only [intsOf, intsOf_none h2, Option.map_none]
def sumB (xs : List Rat) : D → Bool
  | .tup [.tup ds, e] => decide (ds.length = xs.length) && (match intsOf ds, e with
    | some cs, .num t => (decide (0 ≤ t) && decide (t ≤ 1)) && (decide (cs.sum = cnt .heven (sumQ xs)) && (xs.zip cs).all fun p => putOk p.1 p.2 t)
    | _, _ => false)
  | _ => false
theorem sumB_not {xs : List Rat} {d : D} (h : d.isTup = false) : sumB xs d = false := by
  cases d <;> first | rfl | cases h
theorem sumB_len {xs : List Rat} {ds : List D} (h : ¬ ds.length = 2) : sumB xs (.tup ds) = false := by
  match ds, h with
  | [], _ => rfl
  | [d], _ => cases d <;> rfl
  | [a, b], h => exact absurd rfl h
  | a :: b :: c :: r, _ => cases a <;> rfl
theorem sumB_first {xs : List Rat} {a b : D} (h : a.isTup = false) : sumB xs (.tup [a, b]) = false := by
  cases a <;> first | rfl | cases h
theorem sumB_two {xs : List Rat} {ds : List D} {e : D} : sumB xs (.tup [.tup ds, e]) = (decide (ds.length = xs.length) && (match intsOf ds, e with
    | some cs, .num t => (decide (0 ≤ t) && decide (t ≤ 1)) && (decide (cs.sum = cnt .heven (sumQ xs)) && (xs.zip cs).all fun p => putOk p.1 p.2 t)
    | _, _ => false)) := rfl
theorem sumB_thr {xs : List Rat} {ds : List D} {e : D} (h : thrB e = false) : sumB xs (.tup [.tup ds, e]) = false := by
  rw [sumB_two]
  cases intsOf ds with
  | none => simp
  | some cs =>
    cases e with
    | num t =>
      have h2 : (decide (0 ≤ t) && decide (t ≤ 1)) = false := h
      simp only [h2, Bool.false_and, Bool.and_false]
    | _ => simp
def sp_sum_holds (K : PySem.W.Frag) : Sp := fun vs H Q _ => ∃ (M : Addr → Prop) (x y v : V) (qs : List Rat) (s : Rat) (d : D), vs = [x, y, v] ∧ TupN (CN K) H x qs ∧ Parts qs ∧ NumV (CN K) H y s ∧ Sz 100 s ∧ 0 < s ∧ Rep (CN K) M H v d ∧ Fine 400 d ∧
  ∀ H', Same H H' → Q (.bl (sumB (qs.map (· / s)) d)) H'
theorem sc_sum_holds : FnScope ["parts", "step", "thing", "counts", "threshold", "row", "one"] ["parts", "step", "thing"] (defScope s_sum_holds) := ⟨rfl, rfl, rfl, by decide +kernel, rfl, by decide +kernel, by decide +kernel⟩
theorem ok_sum_holds (T : Tx w K mg) : DefOk P w K mg base "sum_holds" 9 [] (sp_sum_holds K) := by
  obtain ⟨fd, F⟩ := T.q_sum_holds
  refine DefOk.of (ps := ["parts", "step", "thing"]) F T.g_sum_holds (fun _ _ _ _ _ _ us hl => match us, hl with | [_, _, _], _ => rfl) (FunD.ok0 F sc_sum_holds (fun vs H Q E h => ?_) (fun cdv A outer s H vs Q E hr h => ?_))
  · obtain ⟨M, x, y, v, qs, s, d, rfl, _⟩ := h
    rfl
  · obtain ⟨M, x, y, v, qs, q, d, rfl, hx, hs, hy, sq, h0, hd, hf, hQ⟩ := h
    refine ⟨_, (pss_cons (ps_if (PW.pt (pw_or (pt_not (pt_val (pe_callB call_isi (by rfl) T.n_isinstance (by decide +kernel) (pa_cons (pv 2) (pa_cons (pe_bltn (v := .ty "tuple") (by rfl) (T.n_tuple) (by decide +kernel) rfl) pa_nil))))) (pw_or (pt_cmpR op_ne (pe_callB call_len_seq (by rfl) T.n_len (by decide +kernel) (pa_cons (pv 2) pa_nil)) pe_int (nomark _)) (pw_or1 (pt_not (pt_val (pe_callB call_isi (by rfl) T.n_isinstance (by decide +kernel) (pa_cons (pe_ix ix_tup (pv 2) pe_int (fun _ _ => rfl)) (pa_cons (pe_bltn (v := .ty "tuple") (by rfl) (T.n_tuple) (by decide +kernel) rfl) pa_nil))))))))) (pss_one (ps_ret pe_bl)) pss_nil)
      (pss_cons (ps_asg (pv 2) (pg_tup (by rfl) (pgs_cons (pg_name (i := 3) sc_sum_holds.nd rfl (Or.inl rfl)) (pgs_cons (pg_name (i := 4) sc_sum_holds.nd rfl (Or.inr rfl)) pgs_nil))))
      (pss_cons (ps_if (PW.pt (pw_or (pt_cmpR op_ne (pe_callB call_len_seq (by rfl) T.n_len (by decide +kernel) (pa_cons (pv 3) pa_nil)) (pe_callB call_len_seq (by rfl) T.n_len (by decide +kernel) (pa_cons (pv 0) pa_nil)) (nomark _)) (pw_or (pt_not (pt_val (pe_callB (cr_all rfl) (by rfl) T.n_all (by decide +kernel) (pa_cons (pe_lc (own := [("one", 6)]) (tt := tYes) (by rfl) sc_sum_holds.nd (pi_tup (pv 3)) (blkOk_by (N := ["parts", "step", "thing", "counts", "threshold", "row", "one"]) (sc := defScope s_sum_holds) (by decide +kernel)) (fun _ _ _ _ _ => (pg_name (i := 6) sc_sum_holds.nd rfl (Or.inl rfl))) (fun _ _ _ _ _ => pts_nil) (fun _ _ _ _ _ => (pe_d (ok_is_whole_sumchecks T) (hr.mono (by decide)) (pa_cons (pv 6) pa_nil)))) pa_nil)))) (pw_or1 (pt_not (pt_val (pe_d (ok_is_threshold T) (hr.mono (by decide)) (pa_cons (pv 4) pa_nil)))))))) (pss_one (ps_ret pe_bl)) pss_nil)
      (pss_cons (ps_if (pt_cmpR op_ne (pe_callB (FgZ.cr_sumT rfl) (by rfl) T.n_sum (by decide +kernel) (pa_cons (pv 3) pa_nil)) (pe_d (ok_steps_of T) (hr.mono (by decide)) (pa_cons (pv 0) (pa_cons (pv 1) pa_nil))) (nomark _)) (pss_one (ps_ret pe_bl)) pss_nil)
      (pss_one (ps_ret (pe_callB (cr_all rfl) (by rfl) T.n_all (by decide +kernel) (pa_cons (pe_lc (own := [("row", 5), ("one", 6)]) (tt := tYes) (by rfl) sc_sum_holds.nd (FgZ.pi_zipS (by rfl) T.n_zip (pa_cons (pe_d (ok_beyond_of T) (hr.mono (by decide)) (pa_cons (pv 0) (pa_cons (pv 1) pa_nil))) (pa_cons (pv 3) pa_nil)) (pk_cons pe_bl pk_nil)) (blkOk_by (N := ["parts", "step", "thing", "counts", "threshold", "row", "one"]) (sc := defScope s_sum_holds) (by decide +kernel)) (fun _ _ _ _ _ => (pg_tupK (K0 := K) (n := 2) (by rfl) (by rfl) (pgs_cons (pg_name (i := 5) sc_sum_holds.nd rfl (Or.inl rfl)) (pgs_cons (pg_name (i := 6) sc_sum_holds.nd rfl (Or.inl rfl)) pgs_nil)))) (fun _ _ _ _ _ => pts_nil) (fun _ _ _ _ _ => (pe_d (ok_is_put_so T) (hr.mono (by decide)) (pa_cons (pv 5) (pa_cons (pv 6) (pa_cons (pv 4) pa_nil)))))) pa_nil)))))))), ?_⟩
    refine ⟨_, rfl, _, _, _, _, _, rfl, .ty _, T.ty.of hd, T.ty.kTup d, _, rfl, ?_⟩
    have bad : ∀ H', Same H H' → sumB (qs.map (· / q)) d = false → Q (.bl false) H' := fun H' s e => by
      have r := hQ H' s
      rw [e] at r
      exact r
    cases ct : d.isTup with
    | false => exact iteT (bad H (Same.refl H) (sumB_not ct))
    | true =>
    obtain ⟨ds, rfl⟩ : ∃ ds, d = .tup ds := by
      cases d <;> first | exact ⟨_, rfl⟩ | cases ct
    obtain ⟨a, vs, rfl, ea, hrs⟩ := rep_tup hd
    have hlv := hrs.length
    refine iteF ⟨_, rfl, a, _, rfl, .inr (SqT.of ea), rfl, _, rfl, ?_⟩
    by_cases c3 : ¬ ds.length = 2
    · rw [decide_eq_false (show ¬ V.int (vs.length : Int) = V.int 2 from fun z => c3 (by injection z with z; omega))]
      exact iteT (bad H (Same.refl H) (sumB_len c3))
    replace c3 : ds.length = 2 := Classical.not_not.mp c3
    rw [decide_eq_true (show V.int (vs.length : Int) = V.int 2 by rw [hlv, c3]; rfl)]
    match ds, c3 with
    | [d1, d2], _ =>
    obtain ⟨v1, v2, rfl, r1, r2⟩ : ∃ v1 v2, vs = [v1, v2] ∧ Rep (CN K) M H v1 d1 ∧ Rep (CN K) M H v2 d2 := by
      match vs, hlv with
      | [v1, v2], _ =>
        have h1 := reps_cons.mp hrs
        have h2 := reps_cons.mp h1.2
        exact ⟨v1, v2, rfl, h1.1, h2.1⟩
    obtain ⟨f1, f2, _⟩ : Fine 400 d1 ∧ Fine 400 d2 ∧ True := by
      unfold Fine at hf
      simpa only [Fines] using hf
    refine iteF ⟨_, rfl, a, _, _, _, rfl, rfl, SqT.of ea, atI_nat (j := 0) rfl, _, _, _, _, _, rfl, .ty _, T.ty.of r1, T.ty.kTup d1, _, rfl, ?_⟩
    cases ct1 : d1.isTup with
    | false => exact iteT (bad H (Same.refl H) (sumB_first ct1))
    | true =>
    obtain ⟨es, rfl⟩ : ∃ es, d1 = .tup es := by
      cases d1 <;> first | exact ⟨_, rfl⟩ | cases ct1
    obtain ⟨b, ws, rfl, eb, hws⟩ := rep_tup r1
    have hlw := hws.length
    refine iteF ?_
    have hx0 := hx
    obtain ⟨pa, pvs, rfl, epa, hpn⟩ := hx0
    have hpl := hpn.1
    refine ⟨_, rfl, a, _, rfl, SqT.of ea, rfl, _, _, rfl, _, _, rfl, rfl, ?_⟩
    refine ⟨_, rfl, b, _, rfl, .inr (SqT.of eb), _, rfl, pa, _, rfl, .inr (SqT.of epa), rfl, _, rfl, ?_⟩
    have bad2 : ∀ H', Same H H' → (decide (es.length = (qs.map (· / q)).length) = false ∨ intsOf es = none) → Q (.bl false) H' := fun H' s e => bad H' s (by
      rw [sumB_two]
      rcases e with e | e
      · rw [e, Bool.false_and]
      · rw [e]
        simp)
    have lq : (qs.map (· / q)).length = qs.length := by rw [List.length_map]
    by_cases c4 : ¬ es.length = qs.length
    · rw [decide_eq_false (show ¬ V.int (ws.length : Int) = V.int (pvs.length : Int) from fun z => c4 (by injection z with z; omega))]
      exact iteT (bad2 H (Same.refl H) (.inl (decide_eq_false (by rw [lq]; exact c4))))
    replace c4 : es.length = qs.length := Classical.not_not.mp c4
    rw [decide_eq_true (show V.int (ws.length : Int) = V.int (pvs.length : Int) by rw [hlw, hpl, c4])]
    refine iteF ?_
    have few := hs.few
    refine ⟨_, rfl, b, rfl, ⟨_, SqT.of eb⟩, fun L nL => lc_tup (K := K) (a := b) (xs := ws) (fun i H' => Same H H' ∧ H' L = some (.lst (((es.take i).map D.isInt).map V.bl)))
      ⟨Same.upd nL, upd_same⟩ (fun i H' _ ⟨s3, _⟩ => SqT.of (s3 _ _ eb)) ?_ ?_⟩
    · rintro i r H' hi ⟨s3, hD⟩
      obtain ⟨e, he, hre⟩ := hws.getV hi
      refine ⟨rfl, Exists.intro _ ⟨rfl, M, r, e, rfl, hre.same s3, _, hD, ?_, ?_, ?_⟩⟩
      · rw [List.length_map, List.length_map, List.length_take, sizeLine_eq]
        omega
      · intro b o e1
        rw [upd_ne (ne_of_none e1 nL)]
        exact s3 _ _ e1
      · rw [upd_same, List.take_add_one, he]
        simp
    · rintro H1 ⟨s1, hD⟩
      rw [hlw, List.take_length] at hD
      refine ⟨L, _, rfl, SqL.of hD, _, rfl, ?_⟩
      have eal : (List.map D.isInt es).all id = es.all D.isInt := by rw [List.all_map]; rfl
      rw [eal]
      cases ca : es.all D.isInt with
      | false => exact iteT (bad2 H1 s1 (.inr (intsOf_none ca)))
      | true =>
      obtain ⟨cs, rfl⟩ := all_ints ca
      have lcs : cs.length = qs.length := by rw [← c4, List.length_map]
      have hwi : ws = cs.map V.int := by
        apply List.ext_getElem?
        intro i
        by_cases hi : i < ws.length
        · obtain ⟨e, he, hre⟩ := hws.getV (List.getElem?_eq_getElem hi)
          rw [List.getElem?_map] at he
          cases hc : cs[i]? with
          | none => rw [hc] at he; cases he
          | some c =>
            rw [hc] at he
            cases he
            rw [List.getElem?_eq_getElem hi, rep_int hre, List.getElem?_map, hc]
            rfl
        · rw [List.getElem?_eq_none (by omega), List.getElem?_eq_none (by rw [List.length_map]; omega)]
      subst hwi
      refine iteF ⟨_, rfl, M, v2, d2, rfl, r2.same s1, f2, fun H2 s2 => ⟨_, rfl, ?_⟩⟩
      have s02 := s1.trans s2
      cases cth : thrB d2 with
      | false => exact iteT (bad H2 s02 (sumB_thr cth))
      | true =>
      obtain ⟨t, rfl⟩ : ∃ t, d2 = .num t := by cases d2 <;> first | exact ⟨_, rfl⟩ | cases cth
      have hth : NumV (CN K) H v2 t := by unfold Rep at r2; exact r2
      have szt : Sz 400 t := by unfold Fine at f2; exact f2
      refine iteF ?_
      refine ⟨_, rfl, b, cs, rfl, SqT.of (s02 _ _ eb), _, rfl, _, rfl, _, y, qs, q, rfl, hx.same s02, hs, hy.same s02, sq, h0, fun H3 s3 => ⟨rfl, _, rfl, ?_⟩⟩
      have s03 := s02.trans s3
      have esum := sumQ_div qs (ne0 h0)
      rw [int_dec, ← esum]
      have good : ∀ bb H', Same H H' → (decide (cs.sum = cnt .heven (sumQ (qs.map (· / q)))) && ((qs.map (· / q)).zip cs).all fun p => putOk p.1 p.2 t) = bb → Q (.bl bb) H' := fun bb H' s e => by
        have r := hQ H' s
        rw [sumB_two, intsOf_map] at r
        have h3 : (decide (0 ≤ t) && decide (t ≤ 1)) = true := cth
        have h4 : decide ((cs.map D.int).length = (qs.map (· / q)).length) = true := decide_eq_true (by rw [List.length_map, lq, lcs])
        simp only [h3, h4, Bool.true_and] at r
        rw [e] at r
        exact r
      by_cases c5 : ¬ cs.sum = cnt .heven (sumQ (qs.map (· / q)))
      · rw [decide_eq_false c5]
        exact iteT (good false H3 s03 (by rw [decide_eq_false c5, Bool.false_and]))
      replace c5 := Classical.not_not.mp c5
      rw [decide_eq_true c5]
      refine iteF ?_
      refine ⟨_, rfl, _, rfl, _, y, qs, q, rfl, hx.same s03, hs, hy.same s03, sq, h0, fun R rs H4 nR s4 eR rows => ?_⟩
      have hrl : rs.length = qs.length := rows.1.trans lq
      have hsz : ∀ z ∈ qs.map (· / q), Sz 140 z := fun z hz => by
        obtain ⟨p, hp, rfl⟩ := List.mem_map.mp hz
        exact ((hs.small p hp).div2 sq h0).mono (by decide)
      have s04 := s03.trans s4
      refine ⟨_, rfl, R, b, rs, _, rfl, rfl, SqL.of eR, SqT.of (s04 _ _ eb), fun L2 nL2 => lc_it (FgZ.walkM (n := qs.length) hrl (by rw [List.length_map, lcs]))
        (fun i H' => Same H4 H' ∧ H' L2 = some (.lst ((((qs.map (· / q)).zip cs).take i).map fun p => V.bl (putOk p.1 p.2 t)))) ⟨Same.upd nL2, upd_same⟩ (fun i H' _ ⟨s6, _⟩ => ⟨SqL.of (s6 _ _ eR), SqT.of ((s04.trans s6) _ _ eb)⟩) ?_ ?_⟩
      · rintro i v H' H6 hi ⟨s6, hD2⟩ ⟨t2, u1, u2, rfl, nt, rfl, e1, e2⟩
        have hlt : i < (qs.map (· / q)).length := by rw [lq]; exact hi
        have s7 := Same.updOf (o := .tup [u1, u2]) s6 nt
        obtain ⟨t3, y2, a2, b2, c2⟩ := (rows.same s7).at hlt
        have e1' : rs[i]? = some u1 := e1
        rw [a2] at e1'
        cases e1'
        have e2' : (cs.map V.int)[i]? = some u2 := e2
        rw [List.getElem?_map] at e2'
        cases hc : cs[i]? with
        | none => rw [hc] at e2'; cases e2'
        | some c =>
        rw [hc] at e2'
        cases e2'
        refine ⟨t2, _, rfl, SqT.of upd_same, rfl, _, _, rfl, _, _, rfl, rfl, rfl, Exists.intro _ ⟨rfl, _, rfl, _, rfl, t3, y2, v2, xat (qs.map (· / q)) i, t, c, rfl, b2, c2, (hth.same s04).same s7, ?_, szt.mono (by decide), fun H8 s8 => ?_⟩⟩
        · exact (sz_xat hsz i).mono (by decide)
        · refine ⟨_, (s8 _ _ ((Same.upd nt) _ _ hD2)), ?_, ?_, ?_⟩
          · rw [List.length_map, List.length_take, sizeLine_eq]
            omega
          · intro b o e
            rw [upd_ne (ne_of_none e nL2)]
            exact (s7.trans s8) _ _ e
          · have ez : ((qs.map (· / q)).zip cs)[i]? = some (xat (qs.map (· / q)) i, c) := by
              rw [List.getElem?_zip_eq_some]
              refine ⟨?_, hc⟩
              rw [List.getElem?_eq_getElem hlt, xat_eq (List.getElem?_eq_getElem hlt)]
            rw [upd_same, List.take_add_one, ez]
            simp
      · rintro H6 ⟨s6, hD2⟩
        have lz : ((qs.map (· / q)).zip cs).length = qs.length := by rw [List.length_zip, lq, lcs, Nat.min_self]
        rw [← lz, List.take_length] at hD2
        refine ⟨L2, ((qs.map (· / q)).zip cs).map (fun p => putOk p.1 p.2 t), rfl, SqL.of (by rw [List.map_map]; exact hD2), ?_⟩
        refine good _ H6 (s04.trans s6) ?_
        rw [decide_eq_true c5, Bool.true_and, List.all_map]
        rfl
end
end Fg
set_option Elab.async false
set_option linter.all false
set_option maxRecDepth 100000
set_option maxHeartbeats 1000000
/-! D9: shortest_holds. -/
namespace Fg
open PySem PySem.Spec PyProof.Rows L2
def nextB (m : Rat) : D → Bool
  | .tup [.int a, .int b] => decide (b = a + 1) && (decide ((a : Rat) < m) && decide (m < (b : Rat)))
  | _ => false
def pairB (k : Int) (s : Rat) (q : Nat) : D → Bool
  | .tup [.int a, .int b] => back a q k s || back b q k s
  | _ => false
def D.isNon : D → Bool
  | .non => true
  | _ => false
def shortB (k : Int) (s : Rat) : D → Bool
  | .tup [.int c, .int p, r] => (decide (0 ≤ p) && decide (p ≤ (mp s : Int))) && (back c p.toNat k s && (if p = 0 then r.isNon else nextB (moved k s (p - 1).toNat) r && !pairB k s (p - 1).toNat r))
  | _ => false
theorem nextB_not {m : Rat} {d : D} (h : d.isTup = false) : nextB m d = false := by
  cases d <;> first | rfl | cases h
theorem nextB_len {m : Rat} {ds : List D} (h : ¬ ds.length = 2) : nextB m (.tup ds) = false := by
  match ds, h with
  | [], _ => rfl
  | [d], _ => cases d <;> rfl
  | [a, b], h => exact absurd rfl h
  | a :: b :: c :: r, _ => cases a <;> first | rfl | (cases b <;> rfl)
theorem nextB_all {m : Rat} {ds : List D} (h : ds.all D.isInt = false) : nextB m (.tup ds) = false := by
  match ds, h with
  | [], _ => rfl
  | [d], _ => cases d <;> rfl
  | [a, b], h => cases a <;> first | rfl | (cases b <;> first | rfl | cases h)
  | a :: b :: c :: r, _ => cases a <;> first | rfl | (cases b <;> rfl)
theorem nextB_two {m : Rat} {a b : Int} : nextB m (.tup (List.map D.int [a, b])) = (decide (b = a + 1) && (decide ((a : Rat) < m) && decide (m < (b : Rat)))) := rfl
section
variable {P : Program} {w : World} {K : PySem.W.Frag} {mg : Str → Option Value} {base : Heap}
def sp_next (K : PySem.W.Frag) : Sp := fun vs H Q _ => ∃ (M : Addr → Prop) (x v : V) (q : Nat) (k : Int) (s : Rat) (d : D), vs = [x, .int (q : Int), v] ∧ NumV (CN K) H x ((k : Rat) * s) ∧ Sz 100 ((k : Rat) * s) ∧ q ≤ 40 ∧ Rep (CN K) M H v d ∧ Fine 400 d ∧ ∀ H', Same H H' → Q (.bl (nextB (moved k s q) d)) H'
theorem sc_are_next : FnScope ["number", "places", "thing", "low", "high", "moved", "one"] ["number", "places", "thing"] (defScope s_are_next) := ⟨rfl, rfl, rfl, by decide +kernel, rfl, by decide +kernel, by decide +kernel⟩
theorem ok_are_next (T : Tx w K mg) : DefOk P w K mg base "are_next" 5 [] (sp_next K) := by
  obtain ⟨fd, F⟩ := T.q_are_next
  refine DefOk.of (ps := ["number", "places", "thing"]) F T.g_are_next (fun _ _ _ _ _ _ us hl => match us, hl with | [_, _, _], _ => rfl) (FunD.ok0 F sc_are_next (fun vs H Q E h => ?_) (fun cdv A outer s H vs Q E hr h => ?_))
  · obtain ⟨M, x, v, q, k, s, d, rfl, _⟩ := h
    rfl
  · obtain ⟨M, x, v, q, k, s, d, rfl, hx, sx, hq, hd, hf, hQ⟩ := h
    refine ⟨_, (pss_cons (ps_if (PW.pt (pw_or (pt_not (pt_val (pe_callB call_isi (by rfl) T.n_isinstance (by decide +kernel) (pa_cons (pv 2) (pa_cons (pe_bltn (v := .ty "tuple") (by rfl) (T.n_tuple) (by decide +kernel) rfl) pa_nil))))) (pw_or (pt_cmpR op_ne (pe_callB call_len_seq (by rfl) T.n_len (by decide +kernel) (pa_cons (pv 2) pa_nil)) pe_int (nomark _)) (pw_or1 (pt_not (pt_val (pe_callB (cr_all rfl) (by rfl) T.n_all (by decide +kernel) (pa_cons (pe_lc (own := [("one", 6)]) (tt := tYes) (by rfl) sc_are_next.nd (pi_tup (pv 2)) (blkOk_by (N := ["number", "places", "thing", "low", "high", "moved", "one"]) (sc := defScope s_are_next) (by decide +kernel)) (fun _ _ _ _ _ => (pg_name (i := 6) sc_are_next.nd rfl (Or.inl rfl))) (fun _ _ _ _ _ => pts_nil) (fun _ _ _ _ _ => (pe_d (ok_is_whole_shortchecks T) (hr.mono (by decide)) (pa_cons (pv 6) pa_nil)))) pa_nil)))))))) (pss_one (ps_ret pe_bl)) pss_nil)
      (pss_cons (ps_asg (pv 2) (pg_tup (by rfl) (pgs_cons (pg_name (i := 3) sc_are_next.nd rfl (Or.inl rfl)) (pgs_cons (pg_name (i := 4) sc_are_next.nd rfl (Or.inl rfl)) pgs_nil))))
      (pss_cons (ps_set (i := 5) sc_are_next.nd rfl (Or.inl rfl) (pe_M_times T (hr.mono (by decide)) (pv 0) (pa_cons (pe_d (ok_ten_to T) (hr.mono (by decide)) (pa_cons (pv 1) pa_nil)) pa_nil)))
      (pss_one (ps_ret (pe_and (pe_cmpR op_eq (pv 4) (pe_op op_add (pv 3) pe_int) (nomark _)) (pe_and (pe_M_below T (hr.mono (by decide)) (pe_N1 T (hr.mono (by decide)) (pa_cons (pv 3) pa_nil)) (pa_cons (pv 5) pa_nil)) (pe_one (pe_M_below T (hr.mono (by decide)) (pv 5) (pa_cons (pe_N1 T (hr.mono (by decide)) (pa_cons (pv 4) pa_nil)) pa_nil)))))))))), ?_⟩
    refine ⟨_, rfl, _, _, _, _, _, rfl, .ty _, T.ty.of hd, T.ty.kTup d, _, rfl, ?_⟩
    have bad : ∀ H', Same H H' → nextB (moved k s q) d = false → Q (.bl false) H' := fun H' s e => by
      have r := hQ H' s
      rw [e] at r
      exact r
    cases ct : d.isTup with
    | false => exact iteT (bad H (Same.refl H) (nextB_not ct))
    | true =>
    obtain ⟨ds, rfl⟩ : ∃ ds, d = .tup ds := by
      cases d <;> first | exact ⟨_, rfl⟩ | cases ct
    obtain ⟨a, vs, rfl, ea, hrs⟩ := rep_tup hd
    have hlv := hrs.length
    refine iteF ⟨_, rfl, a, _, rfl, .inr (SqT.of ea), rfl, _, rfl, ?_⟩
    by_cases c3 : ¬ ds.length = 2
    · rw [decide_eq_false (show ¬ V.int (vs.length : Int) = V.int 2 from fun z => c3 (by injection z with z; omega))]
      exact iteT (bad H (Same.refl H) (nextB_len c3))
    replace c3 : ds.length = 2 := Classical.not_not.mp c3
    rw [decide_eq_true (show V.int (vs.length : Int) = V.int 2 by rw [hlv, c3]; rfl)]
    refine iteF ?_
    refine ⟨_, rfl, a, rfl, ⟨_, SqT.of ea⟩, fun L nL => lc_tup (K := K) (a := a) (xs := vs) (fun i H' => Same H H' ∧ H' L = some (.lst (((ds.take i).map D.isInt).map V.bl)))
      ⟨Same.upd nL, upd_same⟩ (fun i H' _ ⟨s3, _⟩ => SqT.of (s3 _ _ ea)) ?_ ?_⟩
    · rintro i r H' hi ⟨s3, hD⟩
      obtain ⟨e, he, hre⟩ := hrs.getV hi
      refine ⟨rfl, Exists.intro _ ⟨rfl, M, r, e, rfl, hre.same s3, _, hD, ?_, ?_, ?_⟩⟩
      · rw [List.length_map, List.length_map, List.length_take, sizeLine_eq]
        omega
      · intro b o e1
        rw [upd_ne (ne_of_none e1 nL)]
        exact s3 _ _ e1
      · rw [upd_same, List.take_add_one, he]
        simp
    · rintro H1 ⟨s1, hD⟩
      rw [hlv, List.take_length] at hD
      refine ⟨L, _, rfl, SqL.of hD, _, rfl, ?_⟩
      have eal : (List.map D.isInt ds).all id = ds.all D.isInt := by rw [List.all_map]; rfl
      rw [eal]
      cases ca : ds.all D.isInt with
      | false => exact iteT (bad H1 s1 (nextB_all ca))
      | true =>
      refine iteF ?_
      obtain ⟨is, rfl⟩ := all_ints ca
      rw [List.length_map] at c3
      match is, c3 with
      | [ia, ib], _ =>
      obtain ⟨va, vb, rfl, ra, rb⟩ : ∃ va vb, vs = [va, vb] ∧ va = .int ia ∧ vb = .int ib := by
        match vs, hlv with
        | [va, vb], _ =>
          have h1 := reps_cons.mp hrs
          have h2 := reps_cons.mp h1.2
          exact ⟨va, vb, rfl, rep_int h1.1, rep_int h2.1⟩
      subst ra rb
      obtain ⟨fa, fb, _⟩ : Bd 400 ia ∧ Bd 400 ib ∧ True := by
        unfold Fine at hf
        simpa only [List.map_cons, List.map_nil, Fines, Fine] using hf
      have sa := Sz.int fa (by decide)
      have sb := Sz.int fb (by decide)
      refine ⟨_, rfl, a, _, rfl, SqT.of (s1 _ _ ea), rfl, _, _, rfl, _, _, rfl, rfl, ?_⟩
      refine ⟨_, rfl, _, hx.same s1, _, rfl, (q : Int), rfl, by omega, by omega, fun v2 H2 s2 n2 => ⟨_, _, _, _, rfl, (hx.same s1).same s2, n2, sx.mono (by decide), (sz_ten (by omega) (by omega)).mono (by decide), fun v3 H3 s3 n3 => ?_⟩⟩
      rw [ten_pos] at n3
      have em : (k : Rat) * s * (((10 : Int) ^ q : Int) : Rat) = moved k s q := rfl
      rw [em] at n3
      have sm : Sz 320 (moved k s q) := by
        have := sx.mul2 (sz_ten (e := (q : Int)) (by omega) (by omega))
        rw [ten_pos, em] at this
        exact this
      have s03 := (s1.trans s2).trans s3
      refine ⟨_, rfl, _, rfl, _, _, rfl, rfl, rfl, _, rfl, ?_⟩
      rw [int_dec]
      have good : ∀ bb H', Same H H' → (decide (ib = ia + 1) && (decide ((ia : Rat) < moved k s q) && decide (moved k s q < (ib : Rat)))) = bb → Q (.bl bb) H' := fun bb H' s e => by
        have r := hQ H' s
        rw [nextB_two, e] at r
        exact r
      by_cases c5 : ¬ ib = ia + 1
      · rw [decide_eq_false c5]
        exact iteF (good false H3 s03 (by rw [decide_eq_false c5, Bool.false_and]))
      replace c5 := Classical.not_not.mp c5
      rw [decide_eq_true c5]
      refine iteT ⟨_, rfl, _, rfl, fun v4 H4 s4 n4 => ⟨_, n4, _, rfl, _, _, _, _, rfl, n4, n3.same s4, sa.mono (by decide), sm.mono (by decide), _, rfl, ?_⟩⟩
      by_cases c6 : ¬ (ia : Rat) < moved k s q
      · rw [decide_eq_false c6]
        exact iteF (good false H4 (s03.trans s4) (by rw [decide_eq_false c6, Bool.false_and, Bool.and_false]))
      replace c6 := Classical.not_not.mp c6
      rw [decide_eq_true c6]
      refine iteT ⟨_, rfl, _, n3.same s4, _, rfl, _, rfl, fun v5 H5 s5 n5 => ⟨_, _, _, _, rfl, (n3.same s4).same s5, n5, sm.mono (by decide), sb.mono (by decide), ?_⟩⟩
      exact good _ H5 ((s03.trans s4).trans s5) (by rw [decide_eq_true c5, decide_eq_true c6, Bool.true_and, Bool.true_and])
/-! ### is_back -/
def sp_back (K : PySem.W.Frag) : Sp := fun vs H Q _ => ∃ (x y : V) (c k : Int) (q : Nat) (s : Rat), vs = [.int c, .int (q : Int), x, y] ∧ NumV (CN K) H x ((k : Rat) * s) ∧ NumV (CN K) H y s ∧ Bd 400 c ∧ q ≤ 40 ∧ Sz 50 s ∧ 0 < s ∧ ∀ H', Same H H' → Q (.bl (back c q k s)) H'
theorem sc_is_back : FnScope ["count", "places", "number", "step"] ["count", "places", "number", "step"] (defScope s_is_back) := ⟨rfl, rfl, rfl, by decide +kernel, rfl, by decide +kernel, by decide +kernel⟩
theorem ok_is_back (T : Tx w K mg) : DefOk P w K mg base "is_back" 9 [] (sp_back K) := by
  obtain ⟨fd, F⟩ := T.q_is_back
  refine DefOk.of (ps := ["count", "places", "number", "step"]) F T.g_is_back (fun _ _ _ _ _ _ us hl => match us, hl with | [_, _, _, _], _ => rfl) (FunD.ok0 F sc_is_back (fun vs H Q E h => ?_) (fun cdv A outer s H vs Q E hr h => ?_))
  · obtain ⟨x, y, c, k, q, s, rfl, _⟩ := h
    rfl
  · obtain ⟨x, y, c, k, q, t, rfl, hx, hy, bc, hq, st, h0, hQ⟩ := h
    refine ⟨_, (pss_one (ps_ret (pe_d (ok_leads_back T) (hr.mono (by decide)) (pa_cons (pe_M_times T (hr.mono (by decide)) (pe_d (ok_ten_to T) (hr.mono (by decide)) (pa_cons (pe_un un_neg (pv 1)) pa_nil)) (pa_cons (pe_N1 T (hr.mono (by decide)) (pa_cons (pv 0) pa_nil)) pa_nil)) (pa_cons (pv 2) (pa_cons (pv 3) pa_nil)))))), ?_⟩
    have ht := sz_ten (e := -(q : Int)) (by omega) (by omega)
    have hc := Sz.int bc (by decide)
    refine ⟨_, rfl, _, rfl, -(q : Int), rfl, by omega, by omega, fun v1 H1 s1 n1 => ⟨_, n1, _, rfl, _, rfl, fun v2 H2 s2 n2 => ⟨_, _, _, _, rfl, n1.same s2, n2, ht.mono (by decide), hc.mono (by decide), fun v3 H3 s3 n3 => ?_⟩⟩⟩
    have s03 := (s1.trans s2).trans s3
    refine ⟨_, rfl, _, rfl, v3, x, y, _, t, k, rfl, n3, hx.same s03, hy.same s03, (ht.mul2 hc).mono (by decide), st.mono (by decide), h0, fun H4 s4 => ?_⟩
    have r := hQ H4 (s03.trans s4)
    unfold back at r
    rw [ten_neg, back_x]
    exact r
/-! ### shortest_holds -/
theorem shortB_not {k : Int} {s : Rat} {d : D} (h : d.isTup = false) : shortB k s d = false := by
  cases d <;> first | rfl | cases h
theorem shortB_len {k : Int} {s : Rat} {ds : List D} (h : ¬ ds.length = 3) : shortB k s (.tup ds) = false := by
  match ds, h with
  | [], _ => rfl
  | [d], _ => cases d <;> rfl
  | [a, b], _ => cases a <;> first | rfl | (cases b <;> rfl)
  | [a, b, c], h => exact absurd rfl h
  | a :: b :: c :: d :: r, _ => cases a <;> first | rfl | (cases b <;> rfl)
theorem shortB_one {k : Int} {s : Rat} {a b c : D} (h : a.isInt = false) : shortB k s (.tup [a, b, c]) = false := by
  cases a <;> first | rfl | cases h
theorem shortB_two {k : Int} {s : Rat} {a b c : D} (h : b.isInt = false) : shortB k s (.tup [a, b, c]) = false := by
  cases a <;> first | rfl | (cases b <;> first | rfl | cases h)
theorem shortB_eq {k : Int} {s : Rat} {c p : Int} {r : D} : shortB k s (.tup [.int c, .int p, r]) = ((decide (0 ≤ p) && decide (p ≤ (mp s : Int))) && (back c p.toNat k s && (if p = 0 then r.isNon else nextB (moved k s (p - 1).toNat) r && !pairB k s (p - 1).toNat r))) := rfl
theorem nextB_ints {m : Rat} {d : D} (h : nextB m d = true) : ∃ a b : Int, d = .tup [.int a, .int b] := by
  unfold nextB at h
  split at h
  · exact ⟨_, _, rfl⟩
  · cases h
def sp_short_holds (K : PySem.W.Frag) : Sp := fun vs H Q _ => ∃ (M : Addr → Prop) (x y v : V) (k : Int) (s : Rat) (d : D), vs = [x, y, v] ∧ NumV (CN K) H x ((k : Rat) * s) ∧ Sz 100 ((k : Rat) * s) ∧ NumV (CN K) H y s ∧ s ∈ steps11 ∧ Rep (CN K) M H v d ∧ Fine 400 d ∧
  ∀ H', Same H H' → Q (.bl (shortB k s d)) H'
theorem sc_shortest_holds : FnScope ["number", "step", "thing", "count", "places", "paper", "one"] ["number", "step", "thing"] (defScope s_shortest_holds) := ⟨rfl, rfl, rfl, by decide +kernel, rfl, by decide +kernel, by decide +kernel⟩
theorem ok_shortest_holds (T : Tx w K mg) : DefOk P w K mg base "shortest_holds" 10 [] (sp_short_holds K) := by
  obtain ⟨fd, F⟩ := T.q_shortest_holds
  refine DefOk.of (ps := ["number", "step", "thing"]) F T.g_shortest_holds (fun _ _ _ _ _ _ us hl => match us, hl with | [_, _, _], _ => rfl) (FunD.ok0 F sc_shortest_holds (fun vs H Q E h => ?_) (fun cdv A outer s H vs Q E hr h => ?_))
  · obtain ⟨M, x, y, v, k, s, d, rfl, _⟩ := h
    rfl
  · obtain ⟨M, x, y, v, k, t, d, rfl, hx, sx, hy, hst, hd, hf, hQ⟩ := h
    obtain ⟨h0, st, _, _, hmp, _⟩ := steps_ok t hst
    refine ⟨_, (pss_cons (ps_if (PW.pt (pw_or (pt_not (pt_val (pe_callB call_isi (by rfl) T.n_isinstance (by decide +kernel) (pa_cons (pv 2) (pa_cons (pe_bltn (v := .ty "tuple") (by rfl) (T.n_tuple) (by decide +kernel) rfl) pa_nil))))) (pw_or (pt_cmpR op_ne (pe_callB call_len_seq (by rfl) T.n_len (by decide +kernel) (pa_cons (pv 2) pa_nil)) pe_int (nomark _)) (pw_or (pt_not (pt_val (pe_d (ok_is_whole_shortchecks T) (hr.mono (by decide)) (pa_cons (pe_ix ix_tup (pv 2) pe_int (fun _ _ => rfl)) pa_nil)))) (pw_or1 (pt_not (pt_val (pe_d (ok_is_whole_shortchecks T) (hr.mono (by decide)) (pa_cons (pe_ix ix_tup (pv 2) pe_int (fun _ _ => rfl)) pa_nil))))))))) (pss_one (ps_ret pe_bl)) pss_nil)
      (pss_cons (ps_asg (pv 2) (pg_tup (by rfl) (pgs_cons (pg_name (i := 3) sc_shortest_holds.nd rfl (Or.inl rfl)) (pgs_cons (pg_name (i := 4) sc_shortest_holds.nd rfl (Or.inr rfl)) (pgs_cons (pg_name (i := 5) sc_shortest_holds.nd rfl (Or.inl rfl)) pgs_nil)))))
      (pss_cons (ps_if (PW.pt (pw_or (pt_not (pt_chain op_le op_le pe_int (pv 4) (pe_callB (call_max2 rfl) (by rfl) T.n_max (by decide +kernel) (pa_cons pe_int (pa_cons (pe_op op_sub pe_int (pe_d (ok_power_of T) (hr.mono (by decide)) (pa_cons (pv 1) pa_nil))) pa_nil))))) (pw_or1 (pt_not (pt_val (pe_d (ok_is_back T) (hr.mono (by decide)) (pa_cons (pv 3) (pa_cons (pv 4) (pa_cons (pv 0) (pa_cons (pv 1) pa_nil)))))))))) (pss_one (ps_ret pe_bl)) pss_nil)
      (pss_cons (ps_if (pt_cmpR op_eq (pv 4) pe_int (nomark _)) (pss_one (ps_ret (pe_cmpR op_isN (pv 5) pe_non (nomark _)))) pss_nil)
      (pss_cons (ps_if (pt_not (pt_val (pe_d (ok_are_next T) (hr.mono (by decide)) (pa_cons (pv 0) (pa_cons (pe_op op_sub (pv 4) pe_int) (pa_cons (pv 5) pa_nil)))))) (pss_one (ps_ret pe_bl)) pss_nil)
      (pss_one (ps_ret (pe_not (pe_callB (cr_any rfl) (by rfl) T.n_any (by decide +kernel) (pa_cons (pe_lc (own := [("one", 6)]) (tt := tYes) (by rfl) sc_shortest_holds.nd (pi_tup (pv 5)) (blkOk_by (N := ["number", "step", "thing", "count", "places", "paper", "one"]) (sc := defScope s_shortest_holds) (by decide +kernel)) (fun _ _ _ _ _ => (pg_name (i := 6) sc_shortest_holds.nd rfl (Or.inl rfl))) (fun _ _ _ _ _ => pts_nil) (fun _ _ _ _ _ => (pe_d (ok_is_back T) (hr.mono (by decide)) (pa_cons (pv 6) (pa_cons (pe_op op_sub (pv 4) pe_int) (pa_cons (pv 0) (pa_cons (pv 1) pa_nil))))))) pa_nil)))))))))), ?_⟩
    refine ⟨_, rfl, _, _, _, _, _, rfl, .ty _, T.ty.of hd, T.ty.kTup d, _, rfl, ?_⟩
    have bad : ∀ H', Same H H' → shortB k t d = false → Q (.bl false) H' := fun H' s e => by
      have r := hQ H' s
      rw [e] at r
      exact r
    cases ct : d.isTup with
    | false => exact iteT (bad H (Same.refl H) (shortB_not ct))
    | true =>
    obtain ⟨ds, rfl⟩ : ∃ ds, d = .tup ds := by
      cases d <;> first | exact ⟨_, rfl⟩ | cases ct
    obtain ⟨a, vs, rfl, ea, hrs⟩ := rep_tup hd
    have hlv := hrs.length
    refine iteF ⟨_, rfl, a, _, rfl, .inr (SqT.of ea), rfl, _, rfl, ?_⟩
    by_cases c3 : ¬ ds.length = 3
    · rw [decide_eq_false (show ¬ V.int (vs.length : Int) = V.int 3 from fun z => c3 (by injection z with z; omega))]
      exact iteT (bad H (Same.refl H) (shortB_len c3))
    replace c3 : ds.length = 3 := Classical.not_not.mp c3
    rw [decide_eq_true (show V.int (vs.length : Int) = V.int 3 by rw [hlv, c3]; rfl)]
    match ds, c3 with
    | [d1, d2, d3], _ =>
    obtain ⟨v1, v2, v3, rfl, r1, r2, r3⟩ : ∃ v1 v2 v3, vs = [v1, v2, v3] ∧ Rep (CN K) M H v1 d1 ∧ Rep (CN K) M H v2 d2 ∧ Rep (CN K) M H v3 d3 := by
      match vs, hlv with
      | [v1, v2, v3], _ =>
        have h1 := reps_cons.mp hrs
        have h2 := reps_cons.mp h1.2
        have h3 := reps_cons.mp h2.2
        exact ⟨v1, v2, v3, rfl, h1.1, h2.1, h3.1⟩
    obtain ⟨f1, f2, f3, _⟩ : Fine 400 d1 ∧ Fine 400 d2 ∧ Fine 400 d3 ∧ True := by
      unfold Fine at hf
      simpa only [Fines] using hf
    refine iteF ⟨_, rfl, a, _, _, _, rfl, rfl, SqT.of ea, atI_nat (j := 0) rfl, M, v1, d1, rfl, r1, _, rfl, ?_⟩
    cases c4 : d1.isInt with
    | false => exact iteT (bad H (Same.refl H) (shortB_one c4))
    | true =>
    refine iteF ⟨_, rfl, a, _, _, _, rfl, rfl, SqT.of ea, atI_nat (j := 1) rfl, M, v2, d2, rfl, r2, _, rfl, ?_⟩
    cases c5 : d2.isInt with
    | false => exact iteT (bad H (Same.refl H) (shortB_two c5))
    | true =>
    obtain ⟨c, rfl⟩ : ∃ c, d1 = .int c := by cases d1 <;> first | exact ⟨_, rfl⟩ | cases c4
    obtain ⟨p, rfl⟩ : ∃ p, d2 = .int p := by cases d2 <;> first | exact ⟨_, rfl⟩ | cases c5
    obtain rfl := rep_int r1
    obtain rfl := rep_int r2
    have bc : Bd 400 c := by unfold Fine at f1; exact f1
    refine iteF ⟨_, rfl, a, _, rfl, SqT.of ea, rfl, _, _, rfl, _, _, rfl, _, _, rfl, rfl, ?_⟩
    have bad3 : ∀ H', Same H H' → (decide (0 ≤ p) && decide (p ≤ (mp t : Int))) = false ∨ back c p.toNat k t = false → Q (.bl false) H' := fun H' s e => bad H' s (by
      rw [shortB_eq]
      rcases e with e | e
      · rw [e, Bool.false_and]
      · rw [e, Bool.false_and, Bool.and_false])
    refine ⟨_, rfl, _, _, rfl, rfl, _, rfl, ?_⟩
    by_cases p0 : ¬ 0 ≤ p
    · rw [decide_eq_false p0]
      exact iteF ⟨_, rfl, iteT (bad3 H (Same.refl H) (.inl (by rw [decide_eq_false p0, Bool.false_and])))⟩
    replace p0 := Classical.not_not.mp p0
    rw [decide_eq_true p0]
    obtain ⟨n, rfl⟩ := Int.eq_ofNat_of_zero_le p0
    refine iteT ⟨_, rfl, y, t, rfl, hy, hst, fun H1 s1 => ⟨_, _, rfl, rfl, _, _, rfl, _, _, rfl, rfl, _, rfl, ?_⟩⟩
    have emx : (if (1 - pw t) > 0 then (1 - pw t) else (0 : Int)) = (mp t : Int) := by
      unfold mp
      split <;> omega
    have emd : decide ((n : Int) ≤ (if (1 - pw t) > 0 then (1 - pw t) else (0 : Int))) = decide ((n : Int) ≤ (mp t : Int)) := by rw [emx]
    show if (!decide ((n : Int) ≤ (if (1 - pw t) > 0 then (1 - pw t) else (0 : Int)))) = true then _ else _
    rw [emd]
    by_cases p1 : ¬ (n : Int) ≤ (mp t : Int)
    · rw [decide_eq_false p1]
      exact iteT (bad3 H1 s1 (.inl (by rw [decide_eq_false p1, Bool.and_false])))
    replace p1 := Classical.not_not.mp p1
    rw [decide_eq_true p1]
    refine iteF ⟨_, rfl, _, rfl, _, rfl, _, rfl, x, y, c, k, n, t, rfl, hx.same s1, hy.same s1, bc, by omega, st.mono (by decide), h0, fun H2 s2 => ⟨_, rfl, ?_⟩⟩
    have s02 := s1.trans s2
    have en : (n : Int).toNat = n := by omega
    cases cb : back c n k t with
    | false => exact iteT (bad3 H2 s02 (.inr (by rw [en]; exact cb)))
    | true =>
    refine iteF ⟨_, rfl, rfl, _, rfl, ?_⟩
    rw [int_dec]
    have rest : ∀ bb H', Same H H' → (if (n : Int) = 0 then d3.isNon else nextB (moved k t (n - 1)) d3 && !pairB k t (n - 1) d3) = bb → Q (.bl bb) H' := fun bb H' s e => by
      have r := hQ H' s
      have e1 : ((n : Int) - 1).toNat = n - 1 := by omega
      rw [shortB_eq, decide_eq_true p0, decide_eq_true p1, en, cb, e1, e] at r
      exact r
    by_cases n0 : (n : Int) = 0
    · rw [decide_eq_true n0]
      refine iteT ⟨_, rfl, rfl, ?_⟩
      refine rest _ H2 s02 ?_
      rw [if_pos n0]
      cases d3 <;> unfold Rep at r3 <;> first
        | (subst r3; rfl)
        | (subst r3; exact (decide_eq_false (fun z => by cases z)).symm)
        | (obtain ⟨w1, rfl, _⟩ := r3; exact (decide_eq_false (fun z => by cases z)).symm)
        | (obtain ⟨w1, w2, rfl, _⟩ := r3; exact (decide_eq_false (fun z => by cases z)).symm)
    rw [decide_eq_false n0]
    have e1 : (n : Int) - 1 = ((n - 1 : Nat) : Int) := by omega
    refine iteF ⟨_, rfl, _, rfl, _, _, rfl, rfl, _, rfl, M, x, v3, n - 1, k, t, d3, ?_, hx.same s02, sx, by omega, r3.same s02, f3, fun H3 s3 => ⟨_, rfl, ?_⟩⟩
    · show ([x, V.int ((n : Int) - 1), v3] : List V) ++ [] = _
      rw [e1]
      rfl
    have s03 := s02.trans s3
    cases cn : nextB (moved k t (n - 1)) d3 with
    | false => exact iteT (rest false H3 s03 (by rw [if_neg n0, cn, Bool.false_and]))
    | true =>
    obtain ⟨ia, ib, rfl⟩ := nextB_ints cn
    obtain ⟨b, ws, rfl, eb, hws⟩ := rep_tup r3
    obtain ⟨va, vb, rfl, ra, rb⟩ : ∃ va vb, ws = [va, vb] ∧ va = .int ia ∧ vb = .int ib := by
      have hlw := hws.length
      match ws, hlw with
      | [va, vb], _ =>
        have h1 := reps_cons.mp hws
        have h2 := reps_cons.mp h1.2
        exact ⟨va, vb, rfl, rep_int h1.1, rep_int h2.1⟩
    subst ra rb
    obtain ⟨fa, fb, _⟩ : Bd 400 ia ∧ Bd 400 ib ∧ True := by
      unfold Fine at f3
      simpa only [Fines, Fine] using f3
    refine iteF ?_
    refine ⟨_, rfl, b, rfl, ⟨_, SqT.of (s03 _ _ eb)⟩, fun L nL => lc_tup (K := K) (a := b) (xs := [.int ia, .int ib]) (fun i H' => Same H3 H' ∧ H' L = some (.lst (((([ia, ib] : List Int).take i).map fun z => back z (n - 1) k t).map V.bl)))
      ⟨Same.upd nL, upd_same⟩ (fun i H' _ ⟨s4, _⟩ => SqT.of ((s03.trans s4) _ _ eb)) ?_ ?_⟩
    · rintro i r H' hi ⟨s4, hD⟩
      obtain ⟨z, hz, rfl, fz⟩ : ∃ z, ([ia, ib] : List Int)[i]? = some z ∧ r = .int z ∧ Bd 400 z := by
        match i, hi with
        | 0, hi => exact ⟨ia, rfl, (Option.some.inj hi).symm, fa⟩
        | 1, hi => exact ⟨ib, rfl, (Option.some.inj hi).symm, fb⟩
        | j + 2, hi => simp at hi
      have s5 := s03.trans s4
      refine ⟨rfl, Exists.intro _ ⟨rfl, _, rfl, _, _, rfl, rfl, _, rfl, _, rfl, x, y, z, k, n - 1, t, ?_, hx.same s5, hy.same s5, fz, by omega, st.mono (by decide), h0, fun H5 s6 => ⟨_, s6 _ _ hD, ?_, ?_, ?_⟩⟩⟩
      · show ([V.int z, V.int ((n : Int) - 1), x, y] : List V) ++ [] = _
        rw [e1]
        rfl
      · rw [List.length_map, List.length_map, List.length_take, sizeLine_eq]
        have : ([ia, ib] : List Int).length = 2 := rfl
        omega
      · intro b2 o e2
        rw [upd_ne (ne_of_none e2 nL)]
        exact (s4.trans s6) _ _ e2
      · rw [upd_same, List.take_add_one, hz]
        simp
    · rintro H4 ⟨s4, hD⟩
      refine ⟨L, [back ia (n - 1) k t, back ib (n - 1) k t], rfl, SqL.of hD, _, rfl, ?_⟩
      refine rest _ H4 (s03.trans s4) ?_
      rw [if_neg n0, cn, Bool.true_and]
      show (!(back ia (n - 1) k t || back ib (n - 1) k t)) = _
      simp
end
end Fg
set_option Elab.async false
set_option linter.all false
set_option maxRecDepth 100000
set_option maxHeartbeats 1000000
/-! D10: the law's deck and what is drawn. -/
namespace Fg
open PySem PySem.Spec PyProof.Rows L2
/-- the deck's two lists -/
def DM (a c : Addr) : Addr → Prop := fun b => b = a ∨ b = c
structure Deck (H : Hp) (a c : Addr) (B : Int) : Prop where
  ne : a ≠ c
  st : ∃ (cs : List Int) (seed n : Int), H a = some (.lst [.ref c, .int seed, .int n]) ∧ H c = some (.lst (intL cs)) ∧ 0 ≤ n ∧ n ≤ B ∧ cs.length ≤ 100
theorem Deck.lsts {H : Hp} {a c : Addr} {B : Int} (d : Deck H a c B) : Lsts (DM a c) H := fun b hb => by
  obtain ⟨cs, seed, n, h1, h2, _⟩ := d.st
  rcases hb with e | e
  · rw [e]; exact ⟨_, h1⟩
  · rw [e]; exact ⟨_, h2⟩
theorem Deck.fresh {H : Hp} {a c : Addr} {B : Int} (d : Deck H a c B) {p : Addr} (h : H p = none) : ¬ DM a c p := fun m => by
  obtain ⟨xs, e⟩ := d.lsts p m
  rw [h] at e
  cases e
theorem Deck.upd {H : Hp} {a c : Addr} {B : Int} (d : Deck H a c B) {p : Addr} {o : HO} (h : H p = none) : Deck (L2.upd H p o) a c B := ⟨d.ne, by
  obtain ⟨cs, seed, n, h1, h2, h3, h4, h5⟩ := d.st
  exact ⟨cs, seed, n, by rw [upd_ne (ne_of_none h1 h)]; exact h1, by rw [upd_ne (ne_of_none h2 h)]; exact h2, h3, h4, h5⟩⟩
theorem Deck.more {H : Hp} {a c : Addr} {B C : Int} (d : Deck H a c B) (h : B ≤ C) : Deck H a c C := ⟨d.ne, let ⟨cs, seed, n, h1, h2, h3, h4, h5⟩ := d.st; ⟨cs, seed, n, h1, h2, h3, by omega, h5⟩⟩
theorem Deck.same {H H' : Hp} {a c : Addr} {B : Int} (d : Deck H a c B) (s : Same H H') : Deck H' a c B := ⟨d.ne, let ⟨cs, seed, n, h1, h2, h3, h4, h5⟩ := d.st; ⟨cs, seed, n, s _ _ h1, s _ _ h2, h3, h4, h5⟩⟩
theorem bmod (x : Int) {m : Int} (h : 0 < m) (h2 : m ≤ 2147483648) : Bd 31 (x % m) := by
  have a := Int.emod_nonneg x (show m ≠ 0 by omega)
  have b := Int.emod_lt_of_pos x h
  unfold Bd
  omega
/-- a statement's end weakened -/
def moS (t : TS) : TS := fun D σ H => ∃ N : L2.St → Hp → Prop, t { D with nx := N } σ H ∧ ∀ σ' H', N σ' H' → D.nx σ' H'
theorem ps_moS {X : Cx} {st : Stmt} {t : TS} (h : PS X st t) : PS X st (moS t) := ⟨fun pins s σ H D I q => by
  obtain ⟨N, a, b⟩ := q
  refine thn (h.run pins s σ H _ I a) fun f s' z => ?_
  cases f with
  | next =>
    obtain ⟨σ', H', I', n⟩ := z
    exact ⟨σ', H', I', b _ _ n⟩
  | brk => exact z
  | cont => exact z
  | ret u => exact z⟩
theorem intL_last {cs : List Int} (h : cs ≠ []) : ∃ z : Int, (intL cs)[(intL cs).length - 1]? = some (.int z) := by
  have hp := List.length_pos_iff.mpr h
  have hl : (intL cs).length = cs.length := by unfold intL; rw [List.length_map]
  refine ⟨cs[cs.length - 1]'(by omega), ?_⟩
  rw [hl]
  unfold intL
  rw [List.getElem?_map, List.getElem?_eq_getElem (by omega)]
  rfl
theorem intL_drop (cs : List Int) : (intL cs).dropLast = intL cs.dropLast := by
  unfold intL
  rw [List.map_dropLast]
section
variable {P : Program} {w : World} {K : PySem.W.Frag} {mg : Str → Option Value} {base : Heap}
/-! ### _law_draw -/
def sp_draw : Sp := fun vs H Q _ => ∃ (a c : Addr) (B m : Int), vs = [.ref a, .int m] ∧ Deck H a c B ∧ B ≤ 2 ^ 60 ∧ 0 < m ∧ Bd 100 m ∧
  ∀ z H', Keep (DM a c) H H' → Deck H' a c (B + 1) → 0 ≤ z → z < m → Q (.int z) H'
theorem sc_law_draw : FnScope ["_law_deck_here", "_law_much", "_law_cell", "_law_number_here"] ["_law_deck_here", "_law_much"] (defScope s_law_draw) := ⟨rfl, rfl, rfl, by decide +kernel, rfl, by decide +kernel, by decide +kernel⟩
theorem ok_law_draw (T : Tx w K mg) : DefOk P w K mg base "_law_draw" 3 [] sp_draw := by
  obtain ⟨fd, F⟩ := T.q_law_draw
  refine DefOk.of (ps := ["_law_deck_here", "_law_much"]) F T.g_law_draw (fun _ _ _ _ _ _ us hl => match us, hl with | [_, _], _ => rfl) (FunD.ok0 F sc_law_draw (fun vs H Q E h => ?_) (fun cdv A outer s H vs Q E hr h => ?_))
  · obtain ⟨a, c, B, m, rfl, _⟩ := h
    rfl
  · obtain ⟨a, c, B, m, rfl, hd, hB, hm, bm, hQ⟩ := h
    obtain ⟨cs, seed, n, h1, h2, n0, n1, hl⟩ := hd.st
    have hne := hd.ne
    refine ⟨_, (pss_cons (ps_asg (pe_op op_add (pe_ix ix_list (pv 0) pe_int (fun _ _ => rfl)) pe_int) (pg_sub (pv 0) pe_int set_list))
      (pss_cons (ps_set (i := 2) sc_law_draw.nd rfl (Or.inl rfl) (pe_ix ix_list (pv 0) pe_int (fun _ _ => rfl)))
      (pss_cons (ps_moS (ps_if (pt_cmpR (op_neE (hr.mono (by decide))) (pe_ix ix_list (pv 0) pe_int (fun _ _ => rfl)) (pe_lst pa_nil) (nomark _)) (pss_cons (ps_set (i := 2) sc_law_draw.nd rfl (Or.inl rfl) (pe_bm0 PySem.F.plainAttrs_list PySem.F.slot_list_pop PySem.F.type_list_pop mt_pop (pe_ix ix_list (pv 0) pe_int (fun _ _ => rfl))))
      (pss_one (ps_if (pt_cmpR op_ge (pv 2) (pe_op op_pow pe_int pe_int) (nomark _)) (pss_cons (ps_expr (pe_bm PySem.F.plainAttrs_list PySem.F.slot_list_append PySem.F.type_list_append mt_append (pe_ix ix_list (pv 0) pe_int (fun _ _ => rfl)) (pa_cons (pe_op op_fdivW (pv 2) (pv 1)) pa_nil)))
      (pss_one (ps_ret (pe_op op_mod (pv 2) (pv 1))))) pss_nil))) pss_nil))
      (pss_cons (ps_set (i := 3) sc_law_draw.nd rfl (Or.inl rfl) (pe_op op_mod (pe_op op_mulW (pe_op op_add (pe_op op_add (pe_op op_mod (pv 2) pe_int) (pe_op op_mulW (pe_op op_mulW pe_int (pe_ix ix_list (pv 0) pe_int (fun _ _ => rfl))) (pe_ix ix_list (pv 0) pe_int (fun _ _ => rfl)))) pe_int) pe_int) pe_int))
      (pss_cons (ps_set (i := 3) sc_law_draw.nd rfl (Or.inl rfl) (pe_op op_mod (pe_op op_add (pe_op op_add (pe_op op_mulW (pv 3) (pv 3)) (pe_op op_mulW pe_int (pv 3))) (pe_ix ix_list (pv 0) pe_int (fun _ _ => rfl))) pe_int))
      (pss_one (ps_ret (pe_op op_mod (pe_op op_fdivW (pe_op op_mod (pe_op op_mulW (pv 3) pe_int) pe_int) pe_int) (pv 1))))))))), ?_⟩
    refine ⟨_, rfl, a, _, _, _, rfl, rfl, SqL.of h1, atI_nat (j := 2) rfl, _, _, rfl, rfl, _, rfl, a, _, _, 2, rfl, rfl, h1, rfl, ?_⟩
    have hca : c ≠ a := Ne.symm hne
    -- the heap behind the count
    have g1 : (upd H a (.lst [.ref c, .int seed, .int (n + 1)])) a = some (.lst [.ref c, .int seed, .int (n + 1)]) := upd_same
    have g2 : (upd H a (.lst [.ref c, .int seed, .int (n + 1)])) c = some (.lst (intL cs)) := by rw [upd_ne hca]; exact h2
    have k1 : Keep (DM a c) H (upd H a (.lst [.ref c, .int seed, .int (n + 1)])) := fun b o e nb => by
      rw [upd_ne fun z => nb (.inl z)]
      exact e
    refine ⟨_, rfl, a, _, _, _, rfl, rfl, SqL.of g1, atI_nat (j := 1) rfl, ?_⟩
    refine ⟨fun σ' H' => ∃ (z : Int) (cs' : List Int), σ' = [some (.ref a), some (.int m), some (.int z), none] ∧ Keep (DM a c) H H' ∧ H' a = some (.lst [.ref c, .int seed, .int (n + 1)]) ∧ H' c = some (.lst (intL cs')) ∧ cs'.length ≤ 100, ?_, ?_⟩
    · refine ⟨_, rfl, a, _, _, _, rfl, rfl, SqL.of g1, atI_nat (j := 0) rfl, by show 0 ≤ sizeLine; decide, fun e ne => ⟨c, e, cs, rfl, rfl, Same.upd ne _ _ g2, upd_same, _, rfl, ?_⟩⟩
      have s1 : Same (upd H a (.lst [.ref c, .int seed, .int (n + 1)])) _ := Same.upd (o := .lst []) ne
      have k2 := k1.trans (Keep.ofSame s1)
      cases hcs : cs with
      | nil => exact iteF ⟨seed, [], rfl, k2, s1 _ _ g1, by rw [← hcs]; exact s1 _ _ g2, by simp⟩
      | cons x r =>
        have hne0 : cs ≠ [] := by rw [hcs]; simp
        obtain ⟨z, hz⟩ := intL_last hne0
        refine iteT ?_
        refine ⟨_, rfl, a, _, _, _, rfl, rfl, SqL.of (s1 _ _ g1), atI_nat (j := 0) rfl, .inl ⟨rfl, _, SqL.of (s1 _ _ g2)⟩, ?_⟩
        refine ⟨c, _, _, rfl, rfl, s1 _ _ g2, hz, ?_⟩
        rw [intL_drop]
        have g3 : ∀ o, (upd (upd (upd H a (.lst [.ref c, .int seed, .int (n + 1)])) e (.lst [])) c o) a = some (.lst [.ref c, .int seed, .int (n + 1)]) := fun o => by
          rw [upd_ne hne]
          exact s1 _ _ g1
        have k3 : ∀ o, Keep (DM a c) H (upd (upd (upd H a (.lst [.ref c, .int seed, .int (n + 1)])) e (.lst [])) c o) := fun o => k2.trans fun b ob eb nb => by
          rw [upd_ne fun z => nb (.inr z)]
          exact eb
        have hdl : cs.dropLast.length ≤ 99 := by rw [List.length_dropLast]; omega
        refine ⟨_, rfl, _, _, rfl, rfl, ⟨by decide, by decide, by decide⟩, _, _, rfl, rfl, _, rfl, ?_⟩
        by_cases cz : (10 : Int) ^ (18 : Int).toNat ≤ z
        · rw [decide_eq_true cz]
          refine iteT ?_
          refine ⟨_, rfl, a, _, _, _, rfl, rfl, SqL.of (g3 _), atI_nat (j := 0) rfl, .inl ⟨rfl, _, SqL.of upd_same⟩, _, rfl, _, rfl, _, _, rfl, rfl, wide_div hm bm (by decide) (by decide), c, _, _, rfl, rfl, upd_same, ?_, ?_⟩
          · unfold intL
            rw [List.length_map, sizeLine_eq]
            omega
          · rw [upd_upd]
            refine ⟨_, rfl, _, rfl, _, _, rfl, rfl, hm, ?_⟩
            refine hQ _ _ (k3 _) ⟨hne, cs.dropLast ++ [z / m], seed, n + 1, g3 _, ?_, by omega, by omega, ?_⟩ (Int.emod_nonneg _ (by omega)) (Int.emod_lt_of_pos _ hm)
            · rw [upd_same]
              unfold intL
              rw [List.map_append]
              rfl
            · rw [List.length_append]
              simp
              omega
        · rw [decide_eq_false cz]
          exact iteF ⟨z, cs.dropLast, rfl, k3 _, g3 _, upd_same, by omega⟩
    · rintro σ' H' ⟨z, cs', rfl, k, a1, a2, a3⟩
      have m0 := Int.emod_nonneg z (show (2147483629 : Int) ≠ 0 by decide)
      have m1 := Int.emod_lt_of_pos z (show (0 : Int) < 2147483629 by decide)
      have bn : Bd 62 (n + 1) := by unfold Bd; omega
      have b7 : Bd 13 7919 := by unfold Bd; decide
      have bn7 : Bd 75 (7919 * (n + 1)) := b7.mul bn
      have bn8 : Bd 137 (7919 * (n + 1) * (n + 1)) := bn7.mul bn
      have bz := bmod z (m := 2147483629) (by decide) (by decide)
      have bsum : Bd 138 (z % 2147483629 + 7919 * (n + 1) * (n + 1)) := (bz.mono (by decide)).add bn8
      have b31 : Bd 138 31 := by unfold Bd; decide
      have b48 : Bd 16 48271 := by unfold Bd; decide
      refine ⟨_, rfl, _, _, rfl, rfl, by show (0 : Int) < 2147483629; decide, _, rfl, a, _, _, _, rfl, rfl, SqL.of a1, atI_nat (j := 2) rfl, _, _, rfl, rfl, wide_mul b7 bn (by decide) (by decide) (by decide), _, rfl, a, _, _, _, rfl, rfl, SqL.of a1, atI_nat (j := 2) rfl, _, _, rfl, rfl, wide_mul bn7 bn (by decide) (by decide) (by decide), _, _, rfl, rfl, _, _, rfl, rfl, _, _, rfl, rfl, wide_mul (bsum.add b31) b48 (by decide) (by decide) (by decide), _, _, rfl, rfl, by show (0 : Int) < 2147483647; decide, ?_⟩
      have bx := bmod ((z % 2147483629 + 7919 * (n + 1) * (n + 1) + 31) * 48271) (m := 2147483647) (by decide) (by decide)
      refine ⟨_, rfl, _, rfl, _, _, rfl, rfl, wide_mul bx bx (by decide) (by decide) (by decide), _, rfl, _, _, rfl, rfl, wide_mul (show Bd 17 69621 by unfold Bd; decide) bx (by decide) (by decide) (by decide), _, _, rfl, rfl, _, rfl, a, _, _, _, rfl, rfl, SqL.of a1, atI_nat (j := 2) rfl, _, _, rfl, rfl, _, _, rfl, rfl, by show (0 : Int) < 2147483587; decide, ?_⟩
      refine ⟨_, rfl, _, _, rfl, rfl, wide_mul (bmod _ (m := 2147483587) (by decide) (by decide)) (show Bd 16 39373 by unfold Bd; decide) (by decide) (by decide) (by decide), _, _, rfl, rfl, by show (0 : Int) < 2147483563; decide, _, _, rfl, rfl, wide_div (b := 7) (by decide) (by decide) (by decide) (by decide), _, rfl, _, _, rfl, rfl, hm, ?_⟩
      exact hQ _ H' k ⟨hne, cs', seed, n + 1, a1, a2, by omega, by omega, a3⟩ (Int.emod_nonneg _ (by omega)) (Int.emod_lt_of_pos _ hm)
/-! ### _law_deck -/
def sp_deck (K : PySem.W.Frag) : Sp := fun vs H Q _ => ∃ (s : Addr) (ns : List Int), vs = [.ref s] ∧ SqL K H s (intL ns) ∧ ns.length ≤ 63 ∧ ∀ a c H', Same H H' → H a = none → H c = none → Deck H' a c 0 → Q (.ref a) H'
theorem cut_all {ns : List Int} (h : ns.length ≤ 63) : cutV (intL ns) none (some 63) = intL ns := by
  have hl : (intL ns).length = ns.length := by unfold intL; rw [List.length_map]
  unfold cutV
  have e1 : HT.sIx (intL ns).length 0 none = 0 := rfl
  have e2 : HT.sIx (intL ns).length (intL ns).length (some 63) = (intL ns).length := by
    rw [hl]
    simp [HT.sIx]
    omega
  rw [e1, e2, List.drop_zero, Nat.sub_zero, List.take_length]
theorem sc_law_deck : FnScope ["_law_script", "_law_cells", "_law_seed", "_law_cell"] ["_law_script"] (defScope s_law_deck) := ⟨rfl, rfl, rfl, by decide +kernel, rfl, by decide +kernel, by decide +kernel⟩
theorem ok_law_deck (T : Tx w K mg) : DefOk P w K mg base "_law_deck" 3 [] (sp_deck K) := by
  obtain ⟨fd, F⟩ := T.q_law_deck
  refine DefOk.of (ps := ["_law_script"]) F T.g_law_deck (fun _ _ _ _ _ _ us hl => match us, hl with | [_], _ => rfl) (FunD.ok0 F sc_law_deck (fun vs H Q E h => ?_) (fun cdv A outer s H vs Q E hr h => ?_))
  · obtain ⟨s, ns, rfl, _⟩ := h
    rfl
  · obtain ⟨z, ns, rfl, hz, hl, hQ⟩ := h
    refine ⟨_, (pss_cons (ps_set (i := 1) sc_law_deck.nd rfl (Or.inl rfl) (pe_callTy call_list_of (by rfl) T.n_list (by decide +kernel) (pa_cons (pe_slice sl_list (pv 0) po_none (po_some pe_int)) pa_nil)))
      (pss_cons (ps_set (i := 2) sc_law_deck.nd rfl (Or.inl rfl) (pe_callB (cr_sum rfl) (by rfl) T.n_sum (by decide +kernel) (pa_cons (pe_lc (own := [("_law_cell", 3)]) (tt := tYes) (by rfl) sc_law_deck.nd (pi_list (pv 1)) (blkOk_by (N := ["_law_script", "_law_cells", "_law_seed", "_law_cell"]) (sc := defScope s_law_deck) (by decide +kernel)) (fun _ _ _ _ _ => (pg_name (i := 3) sc_law_deck.nd rfl (Or.inl rfl))) (fun _ _ _ _ _ => pts_nil) (fun _ _ _ _ _ => (pe_op op_mod (pv 3) pe_int))) pa_nil)))
      (pss_one (ps_ret (pe_lst (pa_cons (pe_revL (pv 1)) (pa_cons (pe_op op_add (pe_op op_mod (pv 2) pe_int) (pe_op op_mulW pe_int (pe_callB call_len_seq (by rfl) T.n_len (by decide +kernel) (pa_cons (pv 1) pa_nil)))) (pa_cons pe_int pa_nil)))))))), ?_⟩
    refine ⟨_, rfl, _, rfl, z, _, rfl, hz, fun p np => ?_⟩
    rw [cut_all hl]
    refine ⟨p, _, rfl, .inl (SqL.of upd_same), fun C nC => ?_⟩
    have s1 := Same.updOf (o := .lst (intL ns)) (Same.upd (o := .lst (intL ns)) np) nC
    have gC : (upd (upd H p (.lst (intL ns))) C (.lst (intL ns))) C = some (.lst (intL ns)) := upd_same
    have ln : (intL ns).length = ns.length := by unfold intL; rw [List.length_map]
    have nC0 : H C = none := (Same.upd (o := .lst (intL ns)) np).free nC
    generalize hH2 : upd (upd H p (.lst (intL ns))) C (.lst (intL ns)) = H2 at *
    refine ⟨_, rfl, C, rfl, ⟨_, SqL.of gC⟩, fun L nL => lc_list (K := K) (a := C) (xs := intL ns) (fun i H' => Same H2 H' ∧ H' L = some (.lst (((ns.take i).map (· % 2147483629)).map V.int)))
      ⟨Same.upd nL, upd_same⟩ (fun i H' _ ⟨s3, _⟩ => SqL.of (s3 _ _ gC)) ?_ ?_⟩
    · rintro i r H' hi ⟨s3, hD⟩
      obtain ⟨e, he, rfl⟩ : ∃ e, ns[i]? = some e ∧ r = .int e := by
        unfold intL at hi
        rw [List.getElem?_map] at hi
        cases q : ns[i]? with
        | none => rw [q] at hi; cases hi
        | some e => rw [q] at hi; exact ⟨e, rfl, (Option.some.inj hi).symm⟩
      refine ⟨rfl, Exists.intro _ ⟨rfl, _, _, rfl, rfl, by show (0 : Int) < 2147483629; decide, _, hD, ?_, ?_, ?_⟩⟩
      · rw [List.length_map, List.length_map, List.length_take, sizeLine_eq]
        omega
      · intro b o e1
        rw [upd_ne (ne_of_none e1 nL)]
        exact s3 _ _ e1
      · rw [upd_same, List.take_add_one, he]
        simp
    · rintro H3 ⟨s3, hD⟩
      rw [ln, List.take_length] at hD
      refine ⟨L, _, rfl, SqL.of hD, ?_⟩
      have s03 := s1.trans s3
      have gC3 := s3 _ _ gC
      refine ⟨_, rfl, C, _, rfl, SqL.of gC3, fun R nR => ?_⟩
      refine ⟨_, rfl, _, _, rfl, rfl, by show (0 : Int) < 2147483629; decide, _, rfl, C, _, rfl, .inl (SqL.of ((Same.upd nR) _ _ gC3)), _, _, rfl, rfl, ?_, _, _, rfl, rfl, by show 3 ≤ sizeLine; decide, fun a na => ?_⟩
      · rw [ln]
        exact wide_mul (show Bd 16 48271 by unfold Bd; decide) (show Bd 62 (ns.length : Int) by unfold Bd; omega) (by decide) (by decide) (by decide)
      have hRa : R ≠ a := fun e => by
        rw [← e, upd_same] at na
        cases na
      have s4 := Same.updOf (o := .lst (intL ns).reverse) s03 nR
      refine hQ a R _ (Same.updOf s4 na) (s4.free na) (s03.free nR) ⟨Ne.symm hRa, ns.reverse, _, 0, upd_same, ?_, by decide, by decide, by rw [List.length_reverse]; omega⟩
      rw [upd_ne hRa, upd_same]
      unfold intL
      rw [List.map_reverse]
/-! ### _law_some_number -/
/-- a pair of ints -/
def Pair (H : Hp) (v : V) (t b : Int) : Prop := ∃ p, v = .ref p ∧ H p = some (.tup [.int t, .int b])
theorem Pair.keep {M : Addr → Prop} {H H' : Hp} {v : V} {t b : Int} (h : Pair H v t b) (k : Keep M H H') (l : Lsts M H) : Pair H' v t b := by
  obtain ⟨p, e, ep⟩ := h
  exact ⟨p, e, k.get l ep (fun xs z => by cases z)⟩
theorem Pair.same {H H' : Hp} {v : V} {t b : Int} (h : Pair H v t b) (s : Same H H') : Pair H' v t b := by
  obtain ⟨p, e, ep⟩ := h
  exact ⟨p, e, s _ _ ep⟩
/-- a number that is drawn -/
def NumP (t b : Int) : Prop := 0 < b ∧ Bd 24 b ∧ Bd 16 t
def sp_some_number : Sp := fun vs H Q _ => ∃ (a c : Addr) (B : Int), vs = [.ref a] ∧ Deck H a c B ∧ B ≤ 2 ^ 59 ∧
  ∀ v t b H', Keep (DM a c) H H' → Deck H' a c (B + 4) → Pair H' v t b → NumP t b → Q v H'
theorem sc_law_some_number : FnScope ["_law_deck_here", "_law_kind", "_law_top", "_law_places"] ["_law_deck_here"] (defScope s_law_some_number) := ⟨rfl, rfl, rfl, by decide +kernel, rfl, by decide +kernel, by decide +kernel⟩
theorem ok_law_some_number (T : Tx w K mg) : DefOk P w K mg base "_law_some_number" 4 [] sp_some_number := by
  obtain ⟨fd, F⟩ := T.q_law_some_number
  refine DefOk.of (ps := ["_law_deck_here"]) F T.g_law_some_number (fun _ _ _ _ _ _ us hl => match us, hl with | [_], _ => rfl) (FunD.ok0 F sc_law_some_number (fun vs H Q E h => ?_) (fun cdv A outer s H vs Q E hr h => ?_))
  · obtain ⟨a, c, B, rfl, _⟩ := h
    rfl
  · obtain ⟨a, c, B, rfl, hd, hB, hQ⟩ := h
    refine ⟨_, (pss_cons (ps_set (i := 1) sc_law_some_number.nd rfl (Or.inl rfl) (pe_d (ok_law_draw T) (hr.mono (by decide)) (pa_cons (pv 0) (pa_cons pe_int pa_nil))))
      (pss_cons (ps_set (i := 2) sc_law_some_number.nd rfl (Or.inl rfl) (pe_op op_mulW (pe_d (ok_law_draw T) (hr.mono (by decide)) (pa_cons (pv 0) (pa_cons pe_int pa_nil))) (pe_ix ix_list (pe_lst (pa_cons pe_int (pa_cons pe_int (pa_cons (pe_un un_neg pe_int) pa_nil)))) (pe_d (ok_law_draw T) (hr.mono (by decide)) (pa_cons (pv 0) (pa_cons pe_int pa_nil))) (fun _ _ => rfl))))
      (pss_cons (ps_set (i := 3) sc_law_some_number.nd rfl (Or.inl rfl) (pe_d (ok_law_draw T) (hr.mono (by decide)) (pa_cons (pv 0) (pa_cons pe_int pa_nil))))
      (pss_one (ps_ret (pe_ix ix_list (pe_lst (pa_cons (pe_tup (pa_cons (pv 2) (pa_cons pe_int pa_nil))) (pa_cons (pe_tup (pa_cons (pv 2) (pa_cons (pe_d (ok_law_ten T) (hr.mono (by decide)) (pa_cons (pv 3) pa_nil)) pa_nil))) (pa_cons (pe_tup (pa_cons (pv 2) (pa_cons (pe_op op_add pe_int (pv 3)) pa_nil))) (pa_cons (pe_tup (pa_cons (pe_op op_add (pe_op op_mulW pe_int (pv 2)) pe_int) (pa_cons (pe_op op_mulW pe_int (pe_d (ok_law_ten T) (hr.mono (by decide)) (pa_cons (pv 3) pa_nil))) pa_nil))) pa_nil))))) (pv 1) (fun _ _ => rfl))))))), ?_⟩
    refine ⟨_, rfl, a, c, B, 4, rfl, hd, by omega, by decide, by unfold Bd; decide, fun z1 H1 k1 d1 p1 q1 => ?_⟩
    refine ⟨_, rfl, a, c, B + 1, 2000, rfl, d1, by omega, by decide, by unfold Bd; decide, fun z2 H2 k2 d2 p2 q2 => ?_⟩
    refine ⟨1, rfl, by show 3 ≤ sizeLine; decide, fun L nL => ⟨_, rfl, a, c, B + 2, 3, rfl, (d2.more (by omega)).upd nL, by omega, by decide, by unfold Bd; decide, fun z3 H3 k3 d3 p3 q3 => ?_⟩⟩
    have gL := k3 L _ upd_same (d2.fresh nL)
    obtain ⟨sg, hsg, bsg⟩ : ∃ sg : Int, atI [V.int 1, V.int 1, V.int (-1)] z3 = some (V.int sg) ∧ (sg = 1 ∨ sg = -1) := by
      have : z3 = 0 ∨ z3 = 1 ∨ z3 = 2 := by omega
      rcases this with e | e | e <;> subst e
      · exact ⟨1, rfl, .inl rfl⟩
      · exact ⟨1, rfl, .inl rfl⟩
      · exact ⟨-1, rfl, .inr rfl⟩
    have b2 : Bd 11 z2 := by unfold Bd; omega
    have bs : Bd 2 sg := by unfold Bd; omega
    have bt : Bd 13 (z2 * sg) := b2.mul bs
    refine ⟨L, _, _, _, rfl, rfl, SqL.of gL, hsg, _, _, rfl, rfl, wide_mul b2 bs (by decide) (by decide) (by decide), ?_⟩
    refine ⟨_, rfl, a, c, B + 3, 7, rfl, d3.more (by omega), by omega, by decide, by unfold Bd; decide, fun z4 H4 k4 d4 p4 q4 => ?_⟩
    obtain ⟨n, rfl⟩ := Int.eq_ofNat_of_zero_le p4
    have tn : (0 : Int) < 10 ^ n := ipow_pos n
    have bn : Bd 20 ((10 : Int) ^ n) := by
      have : n = 0 ∨ n = 1 ∨ n = 2 ∨ n = 3 ∨ n = 4 ∨ n = 5 ∨ n = 6 := by omega
      rcases this with e | e | e | e | e | e | e <;> subst e <;> (unfold Bd; decide)
    refine ⟨_, rfl, by show 2 ≤ sizeLine; decide, fun t1 n1 => ⟨_, rfl, _, rfl, n, rfl, by omega, by show 2 ≤ sizeLine; decide, fun t2 n2 => ⟨_, rfl, _, rfl, _, _, rfl, rfl, by show 2 ≤ sizeLine; decide, fun t3 n3 => ?_⟩⟩⟩
    refine ⟨_, rfl, _, _, rfl, rfl, wide_mul (show Bd 2 2 by unfold Bd; decide) bt (by decide) (by decide) (by decide), _, _, rfl, rfl, _, rfl, n, rfl, by omega, _, _, rfl, rfl, wide_mul (show Bd 2 2 by unfold Bd; decide) bn (by decide) (by decide) (by decide), by show 2 ≤ sizeLine; decide, fun t4 n4 => ⟨by show 4 ≤ sizeLine; decide, fun LL nLL => ?_⟩⟩
    have s1 := Same.upd (o := .tup [.int (z2 * sg), .int 1]) n1
    have s2 := Same.updOf (o := .tup [.int (z2 * sg), .int (10 ^ n)]) s1 n2
    have s3 := Same.updOf (o := .tup [.int (z2 * sg), .int (3 + (n : Int))]) s2 n3
    have s4 := Same.updOf (o := .tup [.int (2 * (z2 * sg) + 1), .int (2 * 10 ^ n)]) s3 n4
    have s5 := Same.updOf (o := .lst [.ref t1, .ref t2, .ref t3, .ref t4]) s4 nLL
    have kk : Keep (DM a c) H _ := ((((k1.trans k2).trans (Keep.ofSame (Same.upd nL))).trans k3).trans k4).trans (Keep.ofSame s5)
    have dd := ((d4.more (show B + 3 + 1 ≤ B + 4 by omega)).same s5)
    have e5 := Same.upd (o := .lst [.ref t1, .ref t2, .ref t3, .ref t4]) nLL
    have e4 := (Same.upd (o := .tup [.int (2 * (z2 * sg) + 1), .int (2 * 10 ^ n)]) n4).trans e5
    have e3 := (Same.upd (o := .tup [.int (z2 * sg), .int (3 + (n : Int))]) n3).trans e4
    have e2 := (Same.upd (o := .tup [.int (z2 * sg), .int (10 ^ n)]) n2).trans e3
    obtain ⟨tv, tt, bb, hat, hp, hnp⟩ : ∃ (tv : Addr) (tt bb : Int), atI [V.ref t1, V.ref t2, V.ref t3, V.ref t4] z1 = some (V.ref tv) ∧ (upd (upd (upd (upd (upd H4 t1 (.tup [.int (z2 * sg), .int 1])) t2 (.tup [.int (z2 * sg), .int (10 ^ n)])) t3 (.tup [.int (z2 * sg), .int (3 + (n : Int))])) t4 (.tup [.int (2 * (z2 * sg) + 1), .int (2 * 10 ^ n)])) LL (.lst [.ref t1, .ref t2, .ref t3, .ref t4])) tv = some (.tup [.int tt, .int bb]) ∧ NumP tt bb := by
      have : z1 = 0 ∨ z1 = 1 ∨ z1 = 2 ∨ z1 = 3 := by omega
      have bt2 : Bd 16 (2 * (z2 * sg) + 1) := by unfold Bd at *; omega
      have bn2 : Bd 24 (2 * 10 ^ n) := by unfold Bd at *; omega
      rcases this with e | e | e | e <;> subst e
      · exact ⟨t1, _, _, rfl, e2 _ _ upd_same, by decide, by unfold Bd; decide, bt.mono (by decide)⟩
      · exact ⟨t2, _, _, rfl, e3 _ _ upd_same, tn, bn.mono (by decide), bt.mono (by decide)⟩
      · exact ⟨t3, _, _, rfl, e4 _ _ upd_same, by omega, by unfold Bd; omega, bt.mono (by decide)⟩
      · exact ⟨t4, _, _, rfl, e5 _ _ upd_same, by omega, bn2, bt2⟩
    refine ⟨_, rfl, LL, _, _, _, rfl, rfl, SqL.of upd_same, hat, ?_⟩
    exact hQ _ tt bb _ kk dd ⟨tv, rfl, hp⟩ hnp
/-! ### _law_some_step -/
def sp_some_step : Sp := fun vs H Q _ => ∃ (a c : Addr) (B : Int), vs = [.ref a] ∧ Deck H a c B ∧ B ≤ 2 ^ 59 ∧
  ∀ v t b H', Keep (DM a c) H H' → Deck H' a c (B + 1) → Pair H' v t b → (t, b) ∈ stepPairs → Q v H'
theorem sc_law_some_step : FnScope ["_law_deck_here", "_law_some"] ["_law_deck_here"] (defScope s_law_some_step) := ⟨rfl, rfl, rfl, by decide +kernel, rfl, by decide +kernel, by decide +kernel⟩
theorem ok_law_some_step (T : Tx w K mg) : DefOk P w K mg base "_law_some_step" 4 [] sp_some_step := by
  obtain ⟨fd, F⟩ := T.q_law_some_step
  refine DefOk.of (ps := ["_law_deck_here"]) F T.g_law_some_step (fun _ _ _ _ _ _ us hl => match us, hl with | [_], _ => rfl) (FunD.ok0 F sc_law_some_step (fun vs H Q E h => ?_) (fun cdv A outer s H vs Q E hr h => ?_))
  · obtain ⟨a, c, B, rfl, _⟩ := h
    rfl
  · obtain ⟨a, c, B, rfl, hd, hB, hQ⟩ := h
    refine ⟨_, (pss_cons (ps_set (i := 1) sc_law_some_step.nd rfl (Or.inl rfl) (pe_lst (pa_cons (pe_tup (pa_cons pe_int (pa_cons pe_int pa_nil))) (pa_cons (pe_tup (pa_cons pe_int (pa_cons pe_int pa_nil))) (pa_cons (pe_tup (pa_cons pe_int (pa_cons pe_int pa_nil))) (pa_cons (pe_tup (pa_cons pe_int (pa_cons pe_int pa_nil))) (pa_cons (pe_tup (pa_cons pe_int (pa_cons pe_int pa_nil))) (pa_cons (pe_tup (pa_cons pe_int (pa_cons pe_int pa_nil))) (pa_cons (pe_tup (pa_cons pe_int (pa_cons pe_int pa_nil))) (pa_cons (pe_tup (pa_cons pe_int (pa_cons pe_int pa_nil))) (pa_cons (pe_tup (pa_cons pe_int (pa_cons pe_int pa_nil))) pa_nil)))))))))))
      (pss_cons (ps_set (i := 1) sc_law_some_step.nd rfl (Or.inl rfl) (pe_op op_cat (pv 1) (pe_lst (pa_cons (pe_tup (pa_cons (pe_op op_pow pe_int pe_int) (pa_cons pe_int pa_nil))) (pa_cons (pe_tup (pa_cons pe_int (pa_cons (pe_op op_pow pe_int pe_int) pa_nil))) pa_nil)))))
      (pss_one (ps_ret (pe_ix ix_list (pv 1) (pe_d (ok_law_draw T) (hr.mono (by decide)) (pa_cons (pv 0) (pa_cons pe_int pa_nil))) (fun _ _ => rfl)))))), ?_⟩
    refine ⟨by show 2 ≤ sizeLine; decide, fun t0 n0 => ⟨by show 2 ≤ sizeLine; decide, fun t1 n1 => ⟨by show 2 ≤ sizeLine; decide, fun t2 n2 => ⟨by show 2 ≤ sizeLine; decide, fun t3 n3 => ⟨by show 2 ≤ sizeLine; decide, fun t4 n4 => ⟨by show 2 ≤ sizeLine; decide, fun t5 n5 => ⟨by show 2 ≤ sizeLine; decide, fun t6 n6 => ⟨by show 2 ≤ sizeLine; decide, fun t7 n7 => ⟨by show 2 ≤ sizeLine; decide, fun t8 n8 => ⟨by show 9 ≤ sizeLine; decide, fun L nL => ?_⟩⟩⟩⟩⟩⟩⟩⟩⟩⟩
    have u0 := Same.upd (o := (.tup [.int (1), .int (1)])) n0
    have u1 := Same.upd (o := (.tup [.int (1), .int (10)])) n1
    have u2 := Same.upd (o := (.tup [.int (1), .int (100)])) n2
    have u3 := Same.upd (o := (.tup [.int (5), .int (100)])) n3
    have u4 := Same.upd (o := (.tup [.int (1), .int (8)])) n4
    have u5 := Same.upd (o := (.tup [.int (25), .int (1)])) n5
    have u6 := Same.upd (o := (.tup [.int (1), .int (3)])) n6
    have u7 := Same.upd (o := (.tup [.int (2), .int (7)])) n7
    have u8 := Same.upd (o := (.tup [.int (7), .int (1000)])) n8
    have uL := Same.upd (o := .lst [.ref t0, .ref t1, .ref t2, .ref t3, .ref t4, .ref t5, .ref t6, .ref t7, .ref t8]) nL
    refine ⟨_, rfl, _, _, rfl, rfl, ⟨by decide, by decide, by decide⟩, by show 2 ≤ sizeLine; decide, fun t9 n9 => ⟨_, _, rfl, rfl, ⟨by decide, by decide, by decide⟩, by show 2 ≤ sizeLine; decide, fun t10 n10 => ⟨by show 2 ≤ sizeLine; decide, fun L2 nL2 => ?_⟩⟩⟩
    have u9 := Same.upd (o := (.tup [.int (10 ^ (6 : Int).toNat), .int (1)])) n9
    have u10 := Same.upd (o := (.tup [.int (1), .int (10 ^ (12 : Int).toNat)])) n10
    have uL2 := Same.upd (o := .lst [.ref t9, .ref t10]) nL2
    refine ⟨L, L2, _, _, rfl, rfl, uL2 _ _ (u10 _ _ (u9 _ _ upd_same)), upd_same, by show 11 ≤ sizeLine; decide, fun L3 nL3 => ?_⟩
    have uL3 := Same.upd (o := .lst [.ref t0, .ref t1, .ref t2, .ref t3, .ref t4, .ref t5, .ref t6, .ref t7, .ref t8, .ref t9, .ref t10]) nL3
    have f10 := uL2.trans uL3
    have f9 := u10.trans f10
    have fL := u9.trans f9
    have f8 := uL.trans fL
    have f7 := u8.trans f8
    have f6 := u7.trans f7
    have f5 := u6.trans f6
    have f4 := u5.trans f5
    have f3 := u4.trans f4
    have f2 := u3.trans f3
    have f1 := u2.trans f2
    have f0 := u1.trans f1
    have sA := u0.trans f0
    have g0 := f0 t0 (.tup [.int (1), .int (1)]) upd_same
    have g1 := f1 t1 (.tup [.int (1), .int (10)]) upd_same
    have g2 := f2 t2 (.tup [.int (1), .int (100)]) upd_same
    have g3 := f3 t3 (.tup [.int (5), .int (100)]) upd_same
    have g4 := f4 t4 (.tup [.int (1), .int (8)]) upd_same
    have g5 := f5 t5 (.tup [.int (25), .int (1)]) upd_same
    have g6 := f6 t6 (.tup [.int (1), .int (3)]) upd_same
    have g7 := f7 t7 (.tup [.int (2), .int (7)]) upd_same
    have g8 := f8 t8 (.tup [.int (7), .int (1000)]) upd_same
    have g9 := f9 t9 (.tup [.int (10 ^ (6 : Int).toNat), .int (1)]) upd_same
    have g10 := f10 t10 (.tup [.int (1), .int (10 ^ (12 : Int).toNat)]) upd_same
    refine ⟨_, rfl, _, rfl, a, c, B, 11, rfl, hd.same sA, by omega, by decide, by unfold Bd; decide, fun z H' k d p q => ?_⟩
    have dA := hd.same sA
    obtain ⟨tv, tt, bb, hat, hp, hmem⟩ : ∃ (tv : Addr) (tt bb : Int), atI [V.ref t0, V.ref t1, V.ref t2, V.ref t3, V.ref t4, V.ref t5, V.ref t6, V.ref t7, V.ref t8, V.ref t9, V.ref t10] z = some (V.ref tv) ∧ H' tv = some (.tup [.int tt, .int bb]) ∧ (tt, bb) ∈ stepPairs := by
      have : z = 0 ∨ z = 1 ∨ z = 2 ∨ z = 3 ∨ z = 4 ∨ z = 5 ∨ z = 6 ∨ z = 7 ∨ z = 8 ∨ z = 9 ∨ z = 10 := by omega
      rcases this with e | e | e | e | e | e | e | e | e | e | e <;> subst e
      · exact ⟨t0, _, _, rfl, k.get dA.lsts g0 (fun ys z => by cases z), by decide⟩
      · exact ⟨t1, _, _, rfl, k.get dA.lsts g1 (fun ys z => by cases z), by decide⟩
      · exact ⟨t2, _, _, rfl, k.get dA.lsts g2 (fun ys z => by cases z), by decide⟩
      · exact ⟨t3, _, _, rfl, k.get dA.lsts g3 (fun ys z => by cases z), by decide⟩
      · exact ⟨t4, _, _, rfl, k.get dA.lsts g4 (fun ys z => by cases z), by decide⟩
      · exact ⟨t5, _, _, rfl, k.get dA.lsts g5 (fun ys z => by cases z), by decide⟩
      · exact ⟨t6, _, _, rfl, k.get dA.lsts g6 (fun ys z => by cases z), by decide⟩
      · exact ⟨t7, _, _, rfl, k.get dA.lsts g7 (fun ys z => by cases z), by decide⟩
      · exact ⟨t8, _, _, rfl, k.get dA.lsts g8 (fun ys z => by cases z), by decide⟩
      · exact ⟨t9, _, _, rfl, k.get dA.lsts g9 (fun ys z => by cases z), by decide⟩
      · exact ⟨t10, _, _, rfl, k.get dA.lsts g10 (fun ys z => by cases z), by decide⟩
    have gL3 := k L3 _ upd_same (hd.fresh ?_)
    refine ⟨L3, _, _, _, rfl, rfl, SqL.of gL3, hat, ?_⟩
    exact hQ _ tt bb H' ((Keep.ofSame sA).trans k) d ⟨tv, rfl, hp⟩ hmem
    exact ((((((((((((u0.trans u1).trans u2).trans u3).trans u4).trans u5).trans u6).trans u7).trans u8).trans uL).trans u9).trans u10).trans uL2).free nL3
/-! ### _law_number -/
def sp_number (K : PySem.W.Frag) : Sp := fun vs H Q _ => ∃ (v : V) (t b : Int), vs = [v] ∧ Pair H v t b ∧ 0 < b ∧ Bd 1000 b ∧ ∀ u H', Same H H' → NumV (CN K) H' u ((t : Rat) / (b : Rat)) → Q u H'
theorem sc_law_number : FnScope ["_law_pair"] ["_law_pair"] (defScope s_law_number) := ⟨rfl, rfl, rfl, by decide +kernel, rfl, by decide +kernel, by decide +kernel⟩
theorem ok_law_number (T : Tx w K mg) : DefOk P w K mg base "_law_number" 4 [] (sp_number K) := by
  obtain ⟨fd, F⟩ := T.q_law_number
  refine DefOk.of (ps := ["_law_pair"]) F T.g_law_number (fun _ _ _ _ _ _ us hl => match us, hl with | [_], _ => rfl) (FunD.ok0 F sc_law_number (fun vs H Q E h => ?_) (fun cdv A outer s H vs Q E hr h => ?_))
  · obtain ⟨v, t, b, rfl, _⟩ := h
    rfl
  · obtain ⟨v, t, b, rfl, ⟨p, rfl, hp⟩, hb, bb, hQ⟩ := h
    refine ⟨_, (pss_one (ps_ret (pe_N2 T (hr.mono (by decide)) (pa_cons (pe_ix ix_tup (pv 0) pe_int (fun _ _ => rfl)) (pa_cons (pe_ix ix_tup (pv 0) pe_int (fun _ _ => rfl)) pa_nil))))), ?_⟩
    exact ⟨_, rfl, p, _, _, _, rfl, rfl, SqT.of hp, atI_nat (j := 0) rfl, _, rfl, p, _, _, _, rfl, rfl, SqT.of hp, atI_nat (j := 1) rfl, t, b, rfl, hb, bb.mono (by decide), hQ⟩
end
end Fg
set_option Elab.async false
set_option linter.all false
set_option maxRecDepth 100000
set_option maxHeartbeats 1000000
/-! D11: the law's own reckoning. -/
namespace Fg
open PySem PySem.Spec PyProof.Rows L2
section
variable {P : Program} {w : World} {K : PySem.W.Frag} {mg : Str → Option Value} {base : Heap}
/-! ### _law_beyond -/
def sp_beyond : Sp := fun vs H Q _ => ∃ (x y : V) (t b s0 s1 : Int), vs = [x, y] ∧ Pair H x t b ∧ Pair H y s0 s1 ∧ 0 < b ∧ 0 < s0 ∧ Bd 2000 t ∧ Bd 2000 b ∧ Bd 60 s0 ∧ Bd 60 s1 ∧
  ∀ p q H', Same H H' → H p = none → H' p = some (.tup [.int (t * s1 / (b * s0)), .ref q]) → H' q = some (.tup [.int (t * s1 % (b * s0)), .int (b * s0)]) → Q (.ref p) H'
theorem sc_law_beyond : FnScope ["_law_number_here", "_law_step", "_law_whole_here"] ["_law_number_here", "_law_step"] (defScope s_law_beyond) := ⟨rfl, rfl, rfl, by decide +kernel, rfl, by decide +kernel, by decide +kernel⟩
theorem ok_law_beyond (T : Tx w K mg) : DefOk P w K mg base "_law_beyond" 1 [] sp_beyond := by
  obtain ⟨fd, F⟩ := T.q_law_beyond
  refine DefOk.of (ps := ["_law_number_here", "_law_step"]) F T.g_law_beyond (fun _ _ _ _ _ _ us hl => match us, hl with | [_, _], _ => rfl) (FunD.ok0 F sc_law_beyond (fun vs H Q E h => ?_) (fun cdv A outer s H vs Q E hr h => ?_))
  · obtain ⟨x, y, t, b, s0, s1, rfl, _⟩ := h
    rfl
  · obtain ⟨x, y, t, b, s0, s1, rfl, ⟨p, rfl, hp⟩, ⟨q, rfl, hq⟩, hb, h0, bt, bb, b0, b1, hQ⟩ := h
    refine ⟨_, (pss_cons (ps_set (i := 2) sc_law_beyond.nd rfl (Or.inl rfl) (pe_op op_mulW (pe_ix ix_tup (pv 0) pe_int (fun _ _ => rfl)) (pe_ix ix_tup (pv 1) pe_int (fun _ _ => rfl))))
      (pss_one (ps_ret (pe_tup (pa_cons (pe_op op_fdivW (pe_op op_mulW (pe_ix ix_tup (pv 0) pe_int (fun _ _ => rfl)) (pe_ix ix_tup (pv 1) pe_int (fun _ _ => rfl))) (pv 2)) (pa_cons (pe_tup (pa_cons (pe_op op_mod (pe_op op_mulW (pe_ix ix_tup (pv 0) pe_int (fun _ _ => rfl)) (pe_ix ix_tup (pv 1) pe_int (fun _ _ => rfl))) (pv 2)) (pa_cons (pv 2) pa_nil))) pa_nil)))))), ?_⟩
    have hm := Int.mul_pos hb h0
    have bm : Bd 2060 (b * s0) := bb.mul b0
    refine ⟨_, rfl, p, _, _, _, rfl, rfl, SqT.of hp, atI_nat (j := 1) rfl, _, rfl, q, _, _, _, rfl, rfl, SqT.of hq, atI_nat (j := 0) rfl, _, _, rfl, rfl, wide_mul bb b0 (by decide) (by decide) (by decide), ?_⟩
    refine ⟨_, rfl, p, _, _, _, rfl, rfl, SqT.of hp, atI_nat (j := 0) rfl, _, rfl, q, _, _, _, rfl, rfl, SqT.of hq, atI_nat (j := 1) rfl, _, _, rfl, rfl, wide_mul bt b1 (by decide) (by decide) (by decide), _, rfl, _, _, rfl, rfl, wide_div hm bm (by decide) (by decide), ?_⟩
    refine ⟨_, rfl, p, _, _, _, rfl, rfl, SqT.of hp, atI_nat (j := 0) rfl, _, rfl, q, _, _, _, rfl, rfl, SqT.of hq, atI_nat (j := 1) rfl, _, _, rfl, rfl, wide_mul bt b1 (by decide) (by decide) (by decide), _, rfl, _, _, rfl, rfl, hm, _, rfl, by show 2 ≤ sizeLine; decide, fun u nu => ⟨by show 2 ≤ sizeLine; decide, fun z nz => ?_⟩⟩
    have huz : u ≠ z := fun e => by
      rw [← e, upd_same] at nz
      cases nz
    refine hQ z u _ (Same.updOf (Same.upd nu) nz) ((Same.upd nu).free nz) upd_same ?_
    rw [upd_ne huz, upd_same]
/-! ### _law_steps -/
theorem hu1 {k : Nat} {A : Around} (hr : Room k A) : A.units + 1 < cLine := by
  have := hr.units
  omega
def addOf (z : Way) (u l : Int) : Int := match z with
  | .up | .hup => u
  | .down | .hdown => 1 - u
  | .high => 1
  | .low => 0
  | .heven => l % 2
  | .hodd => 1 - l % 2
theorem steps_rest {z : Way} {l r m : Int} {pos : Bool} (h0 : ¬ r = 0) (h : ¬ (z.half = true ∧ 2 * r ≠ m)) : stepsI z l r m pos = l + addOf z (if pos = true then 1 else 0) l := by
  unfold stepsI addOf
  rw [if_neg h0, if_neg h]
  all_goals (cases z <;> rfl)
def dictOf (u l : Int) : List (L2.Key × V) := putK (putK (mergeK [] [(Sum.inr (Str.ofString "up"), V.int u), (Sum.inr (Str.ofString "down"), V.int (1 - u)), (Sum.inr (Str.ofString "high"), V.int 1), (Sum.inr (Str.ofString "low"), V.int 0), (Sum.inr (Str.ofString "half up"), V.int u), (Sum.inr (Str.ofString "half down"), V.int (1 - u))]) (Sum.inr (Str.ofString "half even")) (V.int (l % 2))) (Sum.inr (Str.ofString "half odd")) (V.int (1 - l % 2))
theorem dict_val (z : Way) (u l : Int) : valV (dictOf u l) (Sum.inr z.txt) = some (.int (addOf z u l)) := by cases z <;> kernel_rfl
theorem cnt_rat {z : Way} {t b s0 s1 : Int} (hb : 0 < b) (h0 : 0 < s0) (h1 : 0 < s1) : stepsI z (t * s1 / (b * s0)) (t * s1 % (b * s0)) (b * s0) (decide (0 < t)) = cnt z (rat t b s0 s1) := by
  rw [rat_eq hb h0 h1]
  refine steps_cnt z (Int.mul_pos hb h0) (decide_eq_decide.mpr ⟨fun h => Int.mul_pos h h1, fun h => ?_⟩)
  exact Int.pos_of_mul_pos_left h h1
def sp_steps : Sp := fun vs H Q _ => ∃ (x y : V) (t b s0 s1 : Int) (z : Way), vs = [x, y, .str z.txt] ∧ Pair H x t b ∧ Pair H y s0 s1 ∧ 0 < b ∧ 0 < s0 ∧ 0 < s1 ∧ Bd 2000 t ∧ Bd 2000 b ∧ Bd 60 s0 ∧ Bd 60 s1 ∧
  ∀ H', Same H H' → Q (.int (cnt z (rat t b s0 s1))) H'
theorem cut_half (z : Way) : decide (V.str (cutS z.txt none (some 4)) = V.str (Str.ofString "half")) = z.half := by cases z <;> decide +kernel
theorem sc_law_steps : FnScope ["_law_number_here", "_law_step", "_law_rule", "_law_lesser", "_law_rest", "_law_whole_here", "_law_above", "_law_some"] ["_law_number_here", "_law_step", "_law_rule"] (defScope s_law_steps) := ⟨rfl, rfl, rfl, by decide +kernel, rfl, by decide +kernel, by decide +kernel⟩
theorem ok_law_steps (T : Tx w K mg) : DefOk P w K mg base "_law_steps" 2 [] sp_steps := by
  obtain ⟨fd, F⟩ := T.q_law_steps
  refine DefOk.of (ps := ["_law_number_here", "_law_step", "_law_rule"]) F T.g_law_steps (fun _ _ _ _ _ _ us hl => match us, hl with | [_, _, _], _ => rfl) (FunD.ok0 F sc_law_steps (fun vs H Q E h => ?_) (fun cdv A outer s H vs Q E hr h => ?_))
  · obtain ⟨x, y, t, b, s0, s1, z, rfl, _⟩ := h
    rfl
  · obtain ⟨x, y, t, b, s0, s1, z, rfl, hx, hy, hb, h0, h1, bt, bb, b0, b1, hQ⟩ := h
    refine ⟨_, (pss_cons (ps_asg (pe_d (ok_law_beyond T) (hr.mono (by decide)) (pa_cons (pv 0) (pa_cons (pv 1) pa_nil))) (pg_tup (by rfl) (pgs_cons (pg_name (i := 3) sc_law_steps.nd rfl (Or.inl rfl)) (pgs_cons (pg_tup (by rfl) (pgs_cons (pg_name (i := 4) sc_law_steps.nd rfl (Or.inl rfl)) (pgs_cons (pg_name (i := 5) sc_law_steps.nd rfl (Or.inl rfl)) pgs_nil))) pgs_nil))))
      (pss_cons (ps_if (pt_cmpR op_eq (pv 4) pe_int (nomark _)) (pss_one (ps_ret (pv 3))) pss_nil)
      (pss_cons (ps_set (i := 6) sc_law_steps.nd rfl (Or.inl rfl) (pe_callTy call_int1 (by rfl) T.n_int (by decide +kernel) (pa_cons (pe_cmpR op_gt (pe_ix ix_tup (pv 0) pe_int (fun _ _ => rfl)) pe_int (nomark _)) pa_nil)))
      (pss_cons (ps_moS (ps_if (PW.pt (pw_and (pt_cmpR op_eq (pe_slice sl_str (pv 2) po_none (po_some pe_int)) pe_str (nomark _)) (pw_and1 (pt_cmpR op_ne (pe_op op_mulW pe_int (pv 4)) (pv 5) (nomark _))))) (pss_one (ps_ret (pe_op op_add (pv 3) (pe_callTy call_int1 (by rfl) T.n_int (by decide +kernel) (pa_cons (pe_cmpR op_gt (pe_op op_mulW pe_int (pv 4)) (pv 5) (nomark _)) pa_nil))))) pss_nil))
      (pss_cons (ps_set (i := 7) sc_law_steps.nd rfl (Or.inl rfl) (pe_disp (pps_cons pe_str (pv 6) (pps_cons pe_str (pe_op op_sub pe_int (pv 6)) (pps_cons pe_str pe_int (pps_cons pe_str pe_int (pps_cons pe_str (pv 6) (pps_cons pe_str (pe_op op_sub pe_int (pv 6)) pps_nil)))))) (by rfl) (by rfl) (fun z => by cases z) (by decide)))
      (pss_cons (ps_asg (pe_tup (pa_cons (pe_op op_mod (pv 3) pe_int) (pa_cons (pe_op op_sub pe_int (pe_op op_mod (pv 3) pe_int)) pa_nil))) (pg_tup (by rfl) (pgs_cons (pg_sub (pv 7) pe_str (set_dict (hu1 hr))) (pgs_cons (pg_sub (pv 7) pe_str (set_dict (hu1 hr))) pgs_nil))))
      (pss_one (ps_ret (pe_op op_add (pv 3) (pe_dget (hu1 hr) (pv 7) (pv 2) (fun _ _ => rfl))))))))))), ?_⟩
    refine ⟨_, rfl, _, rfl, x, y, t, b, s0, s1, rfl, hx, hy, hb, h0, bt, bb, b0, b1, fun p q H1 s1' np ep eq => ⟨p, _, rfl, SqT.of ep, rfl, _, _, rfl, _, _, rfl, ⟨q, _, rfl, SqT.of eq, rfl, _, _, rfl, _, _, rfl, rfl, rfl, ?_⟩⟩⟩
    have hcnt := cnt_rat (z := z) (t := t) hb h0 h1
    have hm := Int.mul_pos hb h0
    have hx1 := hx.same s1'
    obtain ⟨px, rfl, epx⟩ := hx1
    rw [← hcnt] at hQ
    generalize t * s1 / (b * s0) = l at *
    generalize hr2 : t * s1 % (b * s0) = r at *
    have br : Bd 2060 r := by
      have a1 := Int.emod_nonneg (t * s1) (show b * s0 ≠ 0 by omega)
      have a2 := Int.emod_lt_of_pos (t * s1) hm
      have a3 : Bd 2060 (b * s0) := bb.mul b0
      unfold Bd at *
      omega
    generalize b * s0 = m at *
    refine ⟨_, rfl, rfl, _, rfl, ?_⟩
    rw [int_dec]
    by_cases c0 : r = 0
    · rw [decide_eq_true c0]
      refine iteT ⟨_, rfl, ?_⟩
      have q := hQ H1 s1'
      unfold stepsI at q
      rw [if_pos c0] at q
      exact q
    rw [decide_eq_false c0]
    refine iteF ?_
    refine ⟨_, rfl, px, _, _, _, rfl, rfl, SqT.of epx, atI_nat (j := 0) rfl, _, _, rfl, rfl, .inr ⟨_, rfl, ?_⟩⟩
    generalize hu : (if decide (0 < t) = true then (1 : Int) else 0) = u
    have b2r := wide_mul (show Bd 2 2 by unfold Bd; decide) br (by decide) (by decide) (by decide)
    have hlen : z.txt.length ≤ sizeLine := by rw [sizeLine_eq]; cases z <;> decide +kernel
    refine ⟨fun σ' H' => σ' = [some (.ref px), some y, some (.str z.txt), some (.int l), some (.int r), some (.int m), some (.int u), none] ∧ H' = H1 ∧ ¬ (z.half = true ∧ 2 * r ≠ m), ?_, ?_⟩
    · refine ⟨_, rfl, 4, rfl, _, rfl, hlen, rfl, _, rfl, ?_⟩
      rw [cut_half]
      cases ch : z.half with
      | false => exact iteF ⟨rfl, rfl, fun z => by cases z.1⟩
      | true =>
        refine iteT ⟨_, rfl, _, _, rfl, rfl, b2r, _, rfl, rfl, _, rfl, ?_⟩
        rw [int_dec]
        by_cases c1 : 2 * r = m
        · rw [decide_eq_true c1]
          exact iteF ⟨rfl, rfl, fun z => z.2 c1⟩
        · rw [decide_eq_false c1]
          refine iteT ⟨_, rfl, _, rfl, _, _, rfl, rfl, b2r, _, rfl, _, _, rfl, rfl, .inr ⟨_, rfl, _, _, rfl, rfl, ?_⟩⟩
          have q := hQ H1 s1'
          unfold stepsI at q
          rw [if_neg c0, if_pos ⟨ch, c1⟩] at q
          have e : (if decide (m < 2 * r) = true then (1 : Int) else 0) = (if 2 * r > m then 1 else 0) := by
            by_cases c2 : m < 2 * r
            · rw [decide_eq_true c2, if_pos rfl, if_pos c2]
            · rw [decide_eq_false c2, if_neg (by decide), if_neg c2]
          show Q (.int (l + (if decide (m < 2 * r) = true then (1 : Int) else 0))) H1
          rw [e]
          exact q
    · rintro σ' H' ⟨rfl, rfl, hno⟩
      refine fun dd nd => ⟨_, rfl, _, rfl, _, _, rfl, rfl, _, rfl, _, rfl, _, _, rfl, rfl, upd_same, [(Sum.inr (Str.ofString "up"), V.int u), (Sum.inr (Str.ofString "down"), V.int (1 - u)), (Sum.inr (Str.ofString "high"), V.int 1), (Sum.inr (Str.ofString "low"), V.int 0), (Sum.inr (Str.ofString "half up"), V.int u), (Sum.inr (Str.ofString "half down"), V.int (1 - u))], rfl, by show 6 ≤ 15; decide, ?_⟩
      rw [upd_upd]
      have gd : ∀ o, upd H' dd o dd = some o := fun o => upd_same
      refine ⟨_, rfl, _, _, rfl, rfl, by show (0 : Int) < 2; decide, _, rfl, _, _, rfl, rfl, by show (0 : Int) < 2; decide, _, _, rfl, rfl, by show 2 ≤ sizeLine; decide, fun tt nt => ?_⟩
      have l6 : (mergeK [] [(Sum.inr (Str.ofString "up"), V.int u), (Sum.inr (Str.ofString "down"), V.int (1 - u)), (Sum.inr (Str.ofString "high"), V.int 1), (Sum.inr (Str.ofString "low"), V.int 0), (Sum.inr (Str.ofString "half up"), V.int u), (Sum.inr (Str.ofString "half down"), V.int (1 - u))] : List (L2.Key × V)).length = 6 := by kernel_rfl
      have l7 : (putK (mergeK [] [(Sum.inr (Str.ofString "up"), V.int u), (Sum.inr (Str.ofString "down"), V.int (1 - u)), (Sum.inr (Str.ofString "high"), V.int 1), (Sum.inr (Str.ofString "low"), V.int 0), (Sum.inr (Str.ofString "half up"), V.int u), (Sum.inr (Str.ofString "half down"), V.int (1 - u))]) (Sum.inr (Str.ofString "half even")) (V.int (l % 2)) : List (L2.Key × V)).length = 7 := by kernel_rfl
      refine ⟨tt, _, rfl, SqT.of upd_same, rfl, _, _, rfl, _, rfl, dd, _, rfl, DPut.k (k := Sum.inr (Str.ofString "half even")) ((Same.upd nt) _ _ upd_same) (by rw [l6, sizeLine_eq]; decide), _, _, rfl, _, rfl, dd, _, rfl, DPut.k (k := Sum.inr (Str.ofString "half odd")) upd_same (by rw [l7, sizeLine_eq]; decide), rfl, ?_⟩
      refine ⟨_, rfl, _, rfl, _, rfl, dd, .int (addOf z u l), rfl, ?_, _, _, rfl, rfl, ?_⟩
      · exact (congrArg (DGet _ dd (.str z.txt)) (dict_val z u l)).mp (DGet.k (k := Sum.inr z.txt) (kvs := dictOf u l) upd_same)
      · have ef : stepsI z l r m (decide (0 < t)) = l + addOf z u l := by rw [steps_rest c0 hno, hu]
        rw [ef] at hQ
        refine hQ _ (s1'.trans (fun b o e => ?_))
        have n1 := ne_of_none e nd
        have n2 : b ≠ tt := ne_of_none ((Same.upd nd) _ _ e) nt
        rw [upd_ne n1, upd_ne n1, upd_ne n2, upd_ne n1]
        exact e
end
end Fg
set_option Elab.async false
set_option linter.all false
set_option maxRecDepth 100000
set_option maxHeartbeats 1000000
/-! D12: the law's own reckoning of the shortest figures and of the sums. -/
namespace Fg
open PySem PySem.Spec PyProof.Rows L2
/-- a step of the eleven, as a pair -/
theorem step_pos {s0 s1 : Int} (h : (s0, s1) ∈ stepPairs) : 0 < s0 ∧ 0 < s1 ∧ Bd 60 s0 ∧ Bd 60 s1 := by
  have : ∀ p ∈ stepPairs, 0 < p.1 ∧ 0 < p.2 ∧ Bd 60 p.1 ∧ Bd 60 p.2 := by decide +kernel
  exact this _ h
theorem step_mem {s0 s1 : Int} (h : (s0, s1) ∈ stepPairs) : (s0 : Rat) / (s1 : Rat) ∈ steps11 := by
  rw [← steps_eq]
  exact List.mem_map.mpr ⟨_, h, rfl⟩
theorem moved_eq {k s0 s1 : Int} {q : Nat} (h1 : 0 < s1) : moved k ((s0 : Rat) / (s1 : Rat)) q * (s1 : Rat) = ((k * s0 * 10 ^ q : Int) : Rat) := by
  have e := cne h1
  unfold moved
  rw [Rat.intCast_mul, Rat.intCast_mul]
  grind
theorem lt_moved {k s0 s1 a : Int} {q : Nat} (h1 : 0 < s1) : (a * s1 < k * s0 * 10 ^ q) ↔ (a : Rat) < moved k ((s0 : Rat) / (s1 : Rat)) q := by
  have e := moved_eq (k := k) (s0 := s0) (q := q) h1
  have hp := cpos h1
  have e2 : ((a * s1 : Int) : Rat) = (a : Rat) * (s1 : Rat) := Rat.intCast_mul _ _
  constructor
  · intro h
    have h2 := Rat.intCast_lt_intCast.mpr h
    rw [← e, e2] at h2
    exact Rat.lt_of_mul_lt_mul_right h2 (Rat.le_of_lt hp)
  · intro h
    have h2 := Rat.mul_lt_mul_of_pos_right h hp
    rw [e, ← e2] at h2
    exact Rat.intCast_lt_intCast.mp h2
theorem moved_lt {k s0 s1 a : Int} {q : Nat} (h1 : 0 < s1) : (k * s0 * 10 ^ q < a * s1) ↔ moved k ((s0 : Rat) / (s1 : Rat)) q < (a : Rat) := by
  have e := moved_eq (k := k) (s0 := s0) (q := q) h1
  have hp := cpos h1
  have e2 : ((a * s1 : Int) : Rat) = (a : Rat) * (s1 : Rat) := Rat.intCast_mul _ _
  constructor
  · intro h
    have h2 := Rat.intCast_lt_intCast.mpr h
    rw [← e, e2] at h2
    exact Rat.lt_of_mul_lt_mul_right h2 (Rat.le_of_lt hp)
  · intro h
    have h2 := Rat.mul_lt_mul_of_pos_right h hp
    rw [e, ← e2] at h2
    exact Rat.intCast_lt_intCast.mp h2
section
variable {P : Program} {w : World} {K : PySem.W.Frag} {mg : Str → Option Value} {base : Heap}
/-! ### _law_back -/
def sp_law_back : Sp := fun vs H Q _ => ∃ (y : V) (c k s0 s1 : Int) (q : Nat), vs = [.int c, .int (q : Int), .int k, y] ∧ Pair H y s0 s1 ∧ 0 < s0 ∧ 0 < s1 ∧ Bd 60 s0 ∧ Bd 60 s1 ∧ Bd 400 c ∧ q ≤ 40 ∧ ∀ H', Same H H' → Q (.bl (back c q k ((s0 : Rat) / (s1 : Rat)))) H'
theorem sc_law_back : FnScope ["_law_count", "_law_places", "_law_kept", "_law_step"] ["_law_count", "_law_places", "_law_kept", "_law_step"] (defScope s_law_back) := ⟨rfl, rfl, rfl, by decide +kernel, rfl, by decide +kernel, by decide +kernel⟩
theorem ok_law_back (T : Tx w K mg) : DefOk P w K mg base "_law_back" 3 [] sp_law_back := by
  obtain ⟨fd, F⟩ := T.q_law_back
  refine DefOk.of (ps := ["_law_count", "_law_places", "_law_kept", "_law_step"]) F T.g_law_back (fun _ _ _ _ _ _ us hl => match us, hl with | [_, _, _, _], _ => rfl) (FunD.ok0 F sc_law_back (fun vs H Q E h => ?_) (fun cdv A outer s H vs Q E hr h => ?_))
  · obtain ⟨y, c, k, s0, s1, q, rfl, _⟩ := h
    rfl
  · obtain ⟨y, c, k, s0, s1, q, rfl, hy, h0, h1, b0, b1, bc, hq, hQ⟩ := h
    refine ⟨_, (pss_one (ps_ret (pe_cmpR op_eq (pe_d (ok_law_steps T) (hr.mono (by decide)) (pa_cons (pe_tup (pa_cons (pv 0) (pa_cons (pe_d (ok_law_ten T) (hr.mono (by decide)) (pa_cons (pv 1) pa_nil)) pa_nil))) (pa_cons (pv 3) (pa_cons pe_str pa_nil)))) (pv 2) (nomark _)))), ?_⟩
    refine ⟨_, rfl, _, rfl, q, rfl, by omega, by show 2 ≤ sizeLine; decide, fun t nt => ⟨_, rfl, _, y, c, 10 ^ q, s0, s1, .heven, rfl, ⟨t, rfl, upd_same⟩, hy.same (Same.upd nt), ipow_pos q, h0, h1, bc.mono (by decide), (bd_pow (by omega)).mono (by decide), b0, b1, fun H1 s1' => ⟨_, rfl, rfl, ?_⟩⟩⟩
    rw [int_dec]
    exact hQ H1 ((Same.upd nt).trans s1')
/-! ### _law_whole -/
theorem sc_law_whole : FnScope ["_law_thing"] ["_law_thing"] (defScope s_law_whole) := ⟨rfl, rfl, rfl, by decide +kernel, rfl, by decide +kernel, by decide +kernel⟩
theorem ok_law_whole (T : Tx w K mg) : DefOk P w K mg base "_law_whole" 1 [] (sp_whole K) := by
  obtain ⟨fd, F⟩ := T.q_law_whole
  refine DefOk.of (ps := ["_law_thing"]) F T.g_law_whole (fun _ _ _ _ _ _ us hl => match us, hl with | [_], _ => rfl) (FunD.ok0 F sc_law_whole (fun vs H Q E h => ?_) (fun cdv A outer s H vs Q E hr h => ?_))
  · obtain ⟨M, v, d, rfl, _⟩ := h
    rfl
  · obtain ⟨M, v, d, rfl, hd, hQ⟩ := h
    refine ⟨_, (pss_one (ps_ret (pe_and (pe_callB call_isi (by rfl) T.n_isinstance (by decide +kernel) (pa_cons (pv 0) (pa_cons (pe_bltn (v := .ty "int") (by rfl) (T.n_int) (by decide +kernel) rfl) pa_nil))) (pe_one (pe_not (pe_callB call_isi (by rfl) T.n_isinstance (by decide +kernel) (pa_cons (pv 0) (pa_cons (pe_bltn (v := .ty "bool") (by rfl) (T.n_bool) (by decide +kernel) rfl) pa_nil)))))))), ?_⟩
    refine ⟨_, rfl, _, _, _, _, _, rfl, .ty _, T.ty.of hd, T.ty.kInt d, _, rfl, ?_⟩
    cases c : d.isInt || d.isBl with
    | true =>
      refine iteT ⟨_, rfl, _, _, _, _, _, rfl, .ty _, T.ty.of hd, T.ty.kBool d, _, rfl, ?_⟩
      have e : (!d.isBl) = d.isInt := by cases d <;> first | rfl | cases c
      rw [e]
      exact hQ
    | false =>
      refine iteF ?_
      have e : d.isInt = false := by cases d <;> first | rfl | cases c
      rw [e] at hQ
      exact hQ
/-! ### _law_shortest_due -/
/-- as many ones as fail the test -/
def ones {α : Type} (f : α → Bool) (l : List α) : List Int := (l.filter f).map fun _ => (1 : Int)
theorem ones_take {α : Type} {f : α → Bool} {l : List α} {i : Nat} {x : α} (h : l[i]? = some x) : ones f (l.take (i + 1)) = ones f (l.take i) ++ (if f x = true then [1] else []) := by
  unfold ones
  rw [filter_take h, List.map_append]
  congr 1
  cases f x <;> rfl
theorem ones_len {α : Type} (f : α → Bool) (l : List α) (i : Nat) : (intL (ones f (l.take i))).length ≤ l.length := by
  unfold intL ones
  rw [List.length_map, List.length_map]
  exact Nat.le_trans (List.length_filter_le _ _) (by rw [List.length_take]; omega)
theorem ones_empty {α : Type} (f : α → Bool) (l : List α) : (ones f l).isEmpty = l.all fun x => !f x := by
  unfold ones
  induction l with
  | nil => rfl
  | cons a r ih =>
    rw [List.all_cons, ← ih]
    cases c : f a <;> simp [List.filter_cons, c]
def sp_short_due (K : PySem.W.Frag) : Sp := fun vs H Q _ => ∃ (M : Addr → Prop) (y v : V) (k s0 s1 : Int) (d : D), vs = [.int k, y, v] ∧ Pair H y s0 s1 ∧ (s0, s1) ∈ stepPairs ∧ Bd 30 k ∧ Rep (CN K) M H v d ∧ Fine 400 d ∧
  ∀ H', Same H H' → Q (.bl (shortB k ((s0 : Rat) / (s1 : Rat)) d)) H'
theorem sc_law_shortest_due : FnScope ["_law_kept", "_law_step", "_law_thing", "_law_count", "_law_places", "_law_paper", "_law_moved", "_law_one"] ["_law_kept", "_law_step", "_law_thing"] (defScope s_law_shortest_due) := ⟨rfl, rfl, rfl, by decide +kernel, rfl, by decide +kernel, by decide +kernel⟩
theorem ok_law_shortest_due (T : Tx w K mg) : DefOk P w K mg base "_law_shortest_due" 4 [] (sp_short_due K) := by
  obtain ⟨fd, F⟩ := T.q_law_shortest_due
  refine DefOk.of (ps := ["_law_kept", "_law_step", "_law_thing"]) F T.g_law_shortest_due (fun _ _ _ _ _ _ us hl => match us, hl with | [_, _, _], _ => rfl) (FunD.ok0 F sc_law_shortest_due (fun vs H Q E h => ?_) (fun cdv A outer s H vs Q E hr h => ?_))
  · obtain ⟨M, y, v, k, s0, s1, d, rfl, _⟩ := h
    rfl
  · obtain ⟨M, y, v, k, s0, s1, d, rfl, hy, hst, bk, hd, hf, hQ⟩ := h
    obtain ⟨p0, p1, b0, b1⟩ := step_pos hst
    have hm := step_mem hst
    obtain ⟨h0, _, _, _, hmp, _⟩ := steps_ok _ hm
    refine ⟨_, (pss_cons (ps_if (PW.pt (pw_or (pt_not (pt_val (pe_callB call_isi (by rfl) T.n_isinstance (by decide +kernel) (pa_cons (pv 2) (pa_cons (pe_bltn (v := .ty "tuple") (by rfl) (T.n_tuple) (by decide +kernel) rfl) pa_nil))))) (pw_or (pt_cmpR op_ne (pe_callB call_len_seq (by rfl) T.n_len (by decide +kernel) (pa_cons (pv 2) pa_nil)) pe_int (nomark _)) (pw_or (pt_not (pt_val (pe_d (ok_law_whole T) (hr.mono (by decide)) (pa_cons (pe_ix ix_tup (pv 2) pe_int (fun _ _ => rfl)) pa_nil)))) (pw_or1 (pt_not (pt_val (pe_d (ok_law_whole T) (hr.mono (by decide)) (pa_cons (pe_ix ix_tup (pv 2) pe_int (fun _ _ => rfl)) pa_nil))))))))) (pss_one (ps_ret pe_bl)) pss_nil)
      (pss_cons (ps_asg (pv 2) (pg_tup (by rfl) (pgs_cons (pg_name (i := 3) sc_law_shortest_due.nd rfl (Or.inl rfl)) (pgs_cons (pg_name (i := 4) sc_law_shortest_due.nd rfl (Or.inr rfl)) (pgs_cons (pg_name (i := 5) sc_law_shortest_due.nd rfl (Or.inl rfl)) pgs_nil)))))
      (pss_cons (ps_if (PW.pt (pw_or (pt_not (pt_chain op_le op_lt pe_int (pv 4) pe_int)) (pw_or1 (pt_not (pt_val (pe_d (ok_law_back T) (hr.mono (by decide)) (pa_cons (pv 3) (pa_cons (pv 4) (pa_cons (pv 0) (pa_cons (pv 1) pa_nil)))))))))) (pss_one (ps_ret pe_bl)) pss_nil)
      (pss_cons (ps_if (pt_cmpR op_eq (pv 4) pe_int (nomark _)) (pss_one (ps_ret (pe_cmpR op_isN (pv 5) pe_non (nomark _)))) pss_nil)
      (pss_cons (ps_if (PW.pt (pw_or (pt_not (pt_val (pe_callB call_isi (by rfl) T.n_isinstance (by decide +kernel) (pa_cons (pv 5) (pa_cons (pe_bltn (v := .ty "tuple") (by rfl) (T.n_tuple) (by decide +kernel) rfl) pa_nil))))) (pw_or (pt_cmpR op_ne (pe_callB call_len_seq (by rfl) T.n_len (by decide +kernel) (pa_cons (pv 5) pa_nil)) pe_int (nomark _)) (pw_or1 (pt_cmpR (op_neE (hr.mono (by decide))) (pe_lc (own := [("_law_one", 7)]) (by rfl) sc_law_shortest_due.nd (pi_tup (pv 5)) (blkOk_by (N := ["_law_kept", "_law_step", "_law_thing", "_law_count", "_law_places", "_law_paper", "_law_moved", "_law_one"]) (sc := defScope s_law_shortest_due) (by decide +kernel)) (fun _ _ _ _ _ => (pg_name (i := 7) sc_law_shortest_due.nd rfl (Or.inl rfl))) (fun _ _ _ _ _ => (pts_one (pt_not (pt_val (pe_d (ok_law_whole T) (hr.mono (by decide)) (pa_cons (pv 7) pa_nil)))))) (fun _ _ _ _ _ => pe_int)) (pe_lst pa_nil) (nomark _)))))) (pss_one (ps_ret pe_bl)) pss_nil)
      (pss_cons (ps_set (i := 6) sc_law_shortest_due.nd rfl (Or.inl rfl) (pe_op op_mulW (pe_op op_mulW (pv 0) (pe_ix ix_tup (pv 1) pe_int (fun _ _ => rfl))) (pe_d (ok_law_ten T) (hr.mono (by decide)) (pa_cons (pe_op op_sub (pv 4) pe_int) pa_nil))))
      (pss_cons (ps_if (PW.pt (pw_or (pt_cmpR op_ne (pe_ix ix_tup (pv 5) pe_int (fun _ _ => rfl)) (pe_op op_add (pe_ix ix_tup (pv 5) pe_int (fun _ _ => rfl)) pe_int) (nomark _)) (pw_or1 (pt_not (pt_chain op_lt op_lt (pe_op op_mulW (pe_ix ix_tup (pv 5) pe_int (fun _ _ => rfl)) (pe_ix ix_tup (pv 1) pe_int (fun _ _ => rfl))) (pv 6) (pe_op op_mulW (pe_ix ix_tup (pv 5) pe_int (fun _ _ => rfl)) (pe_ix ix_tup (pv 1) pe_int (fun _ _ => rfl)))))))) (pss_one (ps_ret pe_bl)) pss_nil)
      (pss_one (ps_ret (pe_cmpR (op_eqE (hr.mono (by decide))) (pe_lc (own := [("_law_one", 7)]) (by rfl) sc_law_shortest_due.nd (pi_tup (pv 5)) (blkOk_by (N := ["_law_kept", "_law_step", "_law_thing", "_law_count", "_law_places", "_law_paper", "_law_moved", "_law_one"]) (sc := defScope s_law_shortest_due) (by decide +kernel)) (fun _ _ _ _ _ => (pg_name (i := 7) sc_law_shortest_due.nd rfl (Or.inl rfl))) (fun _ _ _ _ _ => (pts_one (pt_val (pe_d (ok_law_back T) (hr.mono (by decide)) (pa_cons (pv 7) (pa_cons (pe_op op_sub (pv 4) pe_int) (pa_cons (pv 0) (pa_cons (pv 1) pa_nil)))))))) (fun _ _ _ _ _ => pe_int)) (pe_lst pa_nil) (nomark _))))))))))), ?_⟩
    refine ⟨_, rfl, _, _, _, _, _, rfl, .ty _, T.ty.of hd, T.ty.kTup d, _, rfl, ?_⟩
    have bad : ∀ H', Same H H' → shortB k ((s0 : Rat) / (s1 : Rat)) d = false → Q (.bl false) H' := fun H' s e => by
      have r := hQ H' s
      rw [e] at r
      exact r
    cases ct : d.isTup with
    | false => exact iteT (bad H (Same.refl H) (shortB_not ct))
    | true =>
    obtain ⟨ds, rfl⟩ : ∃ ds, d = .tup ds := by
      cases d <;> first | exact ⟨_, rfl⟩ | cases ct
    obtain ⟨a, vs, rfl, ea, hrs⟩ := rep_tup hd
    have hlv := hrs.length
    refine iteF ⟨_, rfl, a, _, rfl, .inr (SqT.of ea), rfl, _, rfl, ?_⟩
    by_cases c3 : ¬ ds.length = 3
    · rw [decide_eq_false (show ¬ V.int (vs.length : Int) = V.int 3 from fun z => c3 (by injection z with z; omega))]
      exact iteT (bad H (Same.refl H) (shortB_len c3))
    replace c3 : ds.length = 3 := Classical.not_not.mp c3
    rw [decide_eq_true (show V.int (vs.length : Int) = V.int 3 by rw [hlv, c3]; rfl)]
    match ds, c3 with
    | [d1, d2, d3], _ =>
    obtain ⟨v1, v2, v3, rfl, r1, r2, r3⟩ : ∃ v1 v2 v3, vs = [v1, v2, v3] ∧ Rep (CN K) M H v1 d1 ∧ Rep (CN K) M H v2 d2 ∧ Rep (CN K) M H v3 d3 := by
      match vs, hlv with
      | [v1, v2, v3], _ =>
        have h1 := reps_cons.mp hrs
        have h2 := reps_cons.mp h1.2
        have h3 := reps_cons.mp h2.2
        exact ⟨v1, v2, v3, rfl, h1.1, h2.1, h3.1⟩
    obtain ⟨f1, f2, f3, _⟩ : Fine 400 d1 ∧ Fine 400 d2 ∧ Fine 400 d3 ∧ True := by
      unfold Fine at hf
      simpa only [Fines] using hf
    refine iteF ⟨_, rfl, a, _, _, _, rfl, rfl, SqT.of ea, atI_nat (j := 0) rfl, M, v1, d1, rfl, r1, _, rfl, ?_⟩
    cases c4 : d1.isInt with
    | false => exact iteT (bad H (Same.refl H) (shortB_one c4))
    | true =>
    refine iteF ⟨_, rfl, a, _, _, _, rfl, rfl, SqT.of ea, atI_nat (j := 1) rfl, M, v2, d2, rfl, r2, _, rfl, ?_⟩
    cases c5 : d2.isInt with
    | false => exact iteT (bad H (Same.refl H) (shortB_two c5))
    | true =>
    obtain ⟨c, rfl⟩ : ∃ c, d1 = .int c := by cases d1 <;> first | exact ⟨_, rfl⟩ | cases c4
    obtain ⟨p, rfl⟩ : ∃ p, d2 = .int p := by cases d2 <;> first | exact ⟨_, rfl⟩ | cases c5
    obtain rfl := rep_int r1
    obtain rfl := rep_int r2
    have bc : Bd 400 c := by unfold Fine at f1; exact f1
    refine iteF ⟨_, rfl, a, _, rfl, SqT.of ea, rfl, _, _, rfl, _, _, rfl, _, _, rfl, rfl, ?_⟩
    generalize ht : (s0 : Rat) / (s1 : Rat) = t at *
    have bad3 : ∀ H', Same H H' → (decide (0 ≤ p) && decide (p ≤ (mp t : Int))) = false ∨ back c p.toNat k t = false → Q (.bl false) H' := fun H' s e => bad H' s (by
      rw [shortB_eq]
      rcases e with e | e
      · rw [e, Bool.false_and]
      · rw [e, Bool.false_and, Bool.and_false])
    refine ⟨_, rfl, _, _, rfl, rfl, _, rfl, ?_⟩
    by_cases q0 : ¬ 0 ≤ p
    · rw [decide_eq_false q0]
      exact iteF ⟨_, rfl, iteT (bad3 H (Same.refl H) (.inl (by rw [decide_eq_false q0, Bool.false_and])))⟩
    replace q0 := Classical.not_not.mp q0
    rw [decide_eq_true q0]
    obtain ⟨n, rfl⟩ := Int.eq_ofNat_of_zero_le q0
    refine iteT ⟨_, _, rfl, rfl, _, rfl, ?_⟩
    by_cases q1 : ¬ (n : Int) < 30
    · rw [decide_eq_false q1]
      exact iteT (bad3 H (Same.refl H) (.inl (by rw [decide_eq_false (show ¬ (n : Int) ≤ (mp t : Int) by omega), Bool.and_false])))
    replace q1 := Classical.not_not.mp q1
    rw [decide_eq_true q1]
    refine iteF ⟨_, rfl, _, rfl, _, rfl, _, rfl, y, c, k, s0, s1, n, rfl, hy, p0, p1, b0, b1, bc, by omega, fun H2 s2 => ⟨_, rfl, ?_⟩⟩
    rw [ht]
    have en : (n : Int).toNat = n := by omega
    cases cb : back c n k t with
    | false => exact iteT (bad3 H2 s2 (.inr (by rw [en]; exact cb)))
    | true =>
    refine iteF ⟨_, rfl, rfl, _, rfl, ?_⟩
    rw [int_dec]
    have rest : ∀ bb H', Same H H' → (decide ((n : Int) ≤ (mp t : Int)) && (if (n : Int) = 0 then d3.isNon else nextB (moved k t (n - 1)) d3 && !pairB k t (n - 1) d3)) = bb → Q (.bl bb) H' := fun bb H' s e => by
      have r := hQ H' s
      have e1 : ((n : Int) - 1).toNat = n - 1 := by omega
      rw [shortB_eq, decide_eq_true q0, en, cb, e1, Bool.true_and, Bool.true_and, e] at r
      exact r
    by_cases n0 : (n : Int) = 0
    · rw [decide_eq_true n0]
      refine iteT ⟨_, rfl, rfl, ?_⟩
      refine rest _ H2 s2 ?_
      rw [if_pos n0, decide_eq_true (show (n : Int) ≤ (mp t : Int) by omega), Bool.true_and]
      cases d3 <;> unfold Rep at r3 <;> first
        | (subst r3; rfl)
        | (subst r3; exact (decide_eq_false (fun z => by cases z)).symm)
        | (obtain ⟨w1, rfl, _⟩ := r3; exact (decide_eq_false (fun z => by cases z)).symm)
        | (obtain ⟨w1, w2, rfl, _⟩ := r3; exact (decide_eq_false (fun z => by cases z)).symm)
    rw [decide_eq_false n0]
    have bad4 : ∀ H', Same H H' → nextB (moved k t (n - 1)) d3 = false → Q (.bl false) H' := fun H' s e => rest false H' s (by rw [if_neg n0, e, Bool.false_and, Bool.and_false])
    have e1 : (n : Int) - 1 = ((n - 1 : Nat) : Int) := by omega
    have r32 := r3.same s2
    refine iteF ⟨_, rfl, _, _, _, _, _, rfl, .ty _, T.ty.of r32, T.ty.kTup d3, _, rfl, ?_⟩
    cases ct3 : d3.isTup with
    | false => exact iteT (bad4 H2 s2 (nextB_not ct3))
    | true =>
    obtain ⟨es, rfl⟩ : ∃ es, d3 = .tup es := by
      cases d3 <;> first | exact ⟨_, rfl⟩ | cases ct3
    obtain ⟨b, ws, rfl, eb, hws⟩ := rep_tup r32
    have hlw := hws.length
    refine iteF ⟨_, rfl, b, _, rfl, .inr (SqT.of eb), rfl, _, rfl, ?_⟩
    by_cases c6 : ¬ es.length = 2
    · rw [decide_eq_false (show ¬ V.int (ws.length : Int) = V.int 2 from fun z => c6 (by injection z with z; omega))]
      exact iteT (bad4 H2 s2 (nextB_len c6))
    replace c6 : es.length = 2 := Classical.not_not.mp c6
    rw [decide_eq_true (show V.int (ws.length : Int) = V.int 2 by rw [hlw, c6]; rfl)]
    refine iteF ?_
    refine ⟨_, rfl, b, rfl, ⟨_, SqT.of eb⟩, fun L nL => lc_tup (K := K) (a := b) (xs := ws) (fun i H' => Same H2 H' ∧ H' L = some (.lst (intL (ones (fun d => !D.isInt d) (es.take i)))))
      ⟨Same.upd nL, upd_same⟩ (fun i H' _ ⟨s3, _⟩ => SqT.of (s3 _ _ eb)) ?_ ?_⟩
    · rintro i r H' hi ⟨s3, hD⟩
      obtain ⟨e, he, hre⟩ := hws.getV hi
      refine ⟨rfl, _, rfl, M, r, e, rfl, hre.same s3, _, rfl, ?_⟩
      have eo := ones_take (f := fun d => !D.isInt d) he
      cases ci : e.isInt with
      | true =>
        refine iteF ⟨s3, ?_⟩
        rw [eo, hD]
        simp [ci]
      | false =>
        refine iteT ⟨_, hD, ?_, ?_, ?_⟩
        · have := ones_len (fun d => !D.isInt d) es i
          rw [sizeLine_eq]
          omega
        · intro b2 o e2
          rw [upd_ne (ne_of_none e2 nL)]
          exact s3 _ _ e2
        · rw [upd_same, eo]
          simp only [ci, Bool.not_false, if_true]
          unfold intL
          rw [List.map_append]
          rfl
    · rintro H3 ⟨s3, hD⟩
      rw [hlw, List.take_length] at hD
      have s03 := s2.trans s3
      refine ⟨by show 0 ≤ sizeLine; decide, fun E nE => ⟨L, E, _, rfl, rfl, Same.upd nE _ _ hD, upd_same, _, rfl, ?_⟩⟩
      have s4 := Same.updOf (o := .lst []) s03 nE
      have s34 := Same.updOf (o := .lst []) s3 nE
      rw [ones_empty]
      have eai : (es.all fun d => !!D.isInt d) = es.all D.isInt := by congr 1; funext d; simp
      rw [eai]
      cases ca : es.all D.isInt with
      | false => exact iteT (bad4 _ s4 (nextB_all ca))
      | true =>
      refine iteF ?_
      obtain ⟨is, rfl⟩ := all_ints ca
      rw [List.length_map] at c6
      match is, c6 with
      | [ia, ib], _ =>
      obtain ⟨va, vb, rfl, ra, rb⟩ : ∃ va vb, ws = [va, vb] ∧ va = .int ia ∧ vb = .int ib := by
        match ws, hlw with
        | [va, vb], _ =>
          have h1 := reps_cons.mp hws
          have h2 := reps_cons.mp h1.2
          exact ⟨va, vb, rfl, rep_int h1.1, rep_int h2.1⟩
      subst ra rb
      obtain ⟨fa, fb, _⟩ : Bd 400 ia ∧ Bd 400 ib ∧ True := by
        unfold Fine at f3
        simpa only [List.map_cons, List.map_nil, Fines, Fine] using f3
      have eb4 := s34 _ _ eb
      obtain ⟨py, rfl, epy⟩ := hy.same s4
      have bk0 : Bd 90 (k * s0) := bk.mul b0
      refine ⟨_, rfl, _, rfl, py, _, _, _, rfl, rfl, SqT.of epy, atI_nat (j := 0) rfl, _, _, rfl, rfl, wide_mul bk b0 (by decide) (by decide) (by decide), _, rfl, _, _, rfl, rfl, n - 1, ?_, by omega, _, _, rfl, rfl, wide_mul bk0 (bd_pow (p := n - 1) (by omega)) (by decide) (by decide) (by decide), ?_⟩
      · show ([V.int ((n : Int) - 1)] : List V) ++ [] = _
        rw [e1]
        rfl
      refine ⟨_, rfl, b, _, _, _, rfl, rfl, SqT.of eb4, atI_nat (j := 1) rfl, _, rfl, b, _, _, _, rfl, rfl, SqT.of eb4, atI_nat (j := 0) rfl, _, _, rfl, rfl, rfl, _, rfl, ?_⟩
      rw [int_dec]
      by_cases c7 : ¬ ib = ia + 1
      · rw [decide_eq_false c7]
        exact iteT (bad4 _ s4 (by rw [nextB_two, decide_eq_false c7, Bool.false_and]))
      replace c7 := Classical.not_not.mp c7
      rw [decide_eq_true c7]
      refine iteF ⟨_, rfl, b, _, _, _, rfl, rfl, SqT.of eb4, atI_nat (j := 0) rfl, _, rfl, py, _, _, _, rfl, rfl, SqT.of epy, atI_nat (j := 1) rfl, _, _, rfl, rfl, wide_mul fa b1 (by decide) (by decide) (by decide), _, rfl, _, _, rfl, rfl, _, rfl, ?_⟩
      have l1 := lt_moved (k := k) (s0 := s0) (a := ia) (q := n - 1) p1
      have l2 := moved_lt (k := k) (s0 := s0) (a := ib) (q := n - 1) p1
      rw [ht] at l1 l2
      by_cases c8 : ¬ ia * s1 < k * s0 * 10 ^ (n - 1)
      · rw [decide_eq_false c8]
        exact iteF ⟨_, rfl, iteT (bad4 _ s4 (by rw [nextB_two, decide_eq_false (show ¬ (ia : Rat) < moved k t (n - 1) from fun z => c8 (l1.mpr z)), Bool.false_and, Bool.and_false]))⟩
      replace c8 := Classical.not_not.mp c8
      rw [decide_eq_true c8]
      refine iteT ⟨_, rfl, b, _, _, _, rfl, rfl, SqT.of eb4, atI_nat (j := 1) rfl, _, rfl, py, _, _, _, rfl, rfl, SqT.of epy, atI_nat (j := 1) rfl, _, _, rfl, rfl, wide_mul fb b1 (by decide) (by decide) (by decide), _, _, rfl, rfl, _, rfl, ?_⟩
      by_cases c9 : ¬ k * s0 * 10 ^ (n - 1) < ib * s1
      · rw [decide_eq_false c9]
        exact iteT (bad4 _ s4 (by rw [nextB_two, decide_eq_false (show ¬ moved k t (n - 1) < (ib : Rat) from fun z => c9 (l2.mpr z)), Bool.and_false, Bool.and_false]))
      replace c9 := Classical.not_not.mp c9
      rw [decide_eq_true c9]
      refine iteF ?_
      have epyP : Pair (upd H3 E (.lst [])) (.ref py) s0 s1 := ⟨py, rfl, epy⟩
      refine ⟨_, rfl, b, rfl, ⟨_, SqT.of eb4⟩, fun L2 nL2 => lc_tup (K := K) (a := b) (xs := [.int ia, .int ib]) (fun i H' => Same (upd H3 E (.lst [])) H' ∧ H' L2 = some (.lst (intL (ones (fun z => back z (n - 1) k t) (([ia, ib] : List Int).take i)))))
        ⟨Same.upd nL2, upd_same⟩ (fun i H' _ ⟨s5, _⟩ => SqT.of (s5 _ _ eb4)) ?_ ?_⟩
      · rintro i r H' hi ⟨s5, hD5⟩
        obtain ⟨z, hz, rfl, fz⟩ : ∃ z, ([ia, ib] : List Int)[i]? = some z ∧ r = .int z ∧ Bd 400 z := by
          match i, hi with
          | 0, hi => exact ⟨ia, rfl, (Option.some.inj hi).symm, fa⟩
          | 1, hi => exact ⟨ib, rfl, (Option.some.inj hi).symm, fb⟩
          | j + 2, hi => simp at hi
        refine ⟨rfl, _, rfl, _, rfl, _, _, rfl, rfl, _, rfl, _, rfl, .ref py, z, k, s0, s1, n - 1, ?_, epyP.same s5, p0, p1, b0, b1, fz, by omega, fun H6 s6 => ⟨_, rfl, ?_⟩⟩
        · show ([V.int z, V.int ((n : Int) - 1), V.int k, V.ref py] : List V) ++ [] = _
          rw [e1]
          rfl
        rw [ht]
        have eo := ones_take (f := fun z => back z (n - 1) k t) hz
        cases ci : back z (n - 1) k t with
        | false =>
          refine iteF ⟨s5.trans s6, ?_⟩
          rw [eo, s6 _ _ hD5]
          simp [ci]
        | true =>
          refine iteT ⟨_, s6 _ _ hD5, ?_, ?_, ?_⟩
          · have := ones_len (fun z => back z (n - 1) k t) ([ia, ib] : List Int) i
            rw [sizeLine_eq]
            have e2 : ([ia, ib] : List Int).length = 2 := rfl
            omega
          · intro b2 o e2
            rw [upd_ne (ne_of_none e2 nL2)]
            exact (s5.trans s6) _ _ e2
          · rw [upd_same, eo]
            simp only [ci, if_true]
            unfold intL
            rw [List.map_append]
            rfl
      · rintro H5 ⟨s5, hD5⟩
        refine ⟨by show 0 ≤ sizeLine; decide, fun E2 nE2 => ⟨L2, E2, _, rfl, rfl, Same.upd nE2 _ _ hD5, upd_same, ?_⟩⟩
        refine rest _ _ (Same.updOf (s4.trans s5) nE2) ?_
        rw [if_neg n0, nextB_two, decide_eq_true c7, decide_eq_true (l1.mp c8), decide_eq_true (l2.mp c9), Bool.true_and, Bool.true_and, Bool.true_and, Bool.false_xor, show ([ia, ib] : List Int).take ([V.int ia, V.int ib] : List V).length = [ia, ib] from rfl, ones_empty]
        have ep : pairB k t (n - 1) (.tup (List.map D.int [ia, ib])) = (back ia (n - 1) k t || back ib (n - 1) k t) := rfl
        rw [ep]
        by_cases cm : (n : Int) ≤ (mp t : Int)
        · rw [decide_eq_true cm, Bool.true_and]
          simp
        · rw [decide_eq_false cm, Bool.false_and]
          have hfine := fine_at hm (p := n - 1) (by omega)
          have m1 := l1.mp c8
          have m2 := l2.mp c9
          rw [c7, Rat.intCast_add] at m2
          have e3 : ((1 : Int) : Rat) = 1 := rfl
          rw [e3] at m2
          have hb1 : back ia (n - 1) k t = true := back_near h0 hfine (by grind) (by grind)
          simp [hb1]
end
end Fg
set_option Elab.async false
set_option linter.all false
set_option maxRecDepth 100000
set_option maxHeartbeats 1000000
/-! D13: the law's sums. -/
namespace Fg
open PySem PySem.Spec PyProof.Rows L2
def ratP (p : Int × Int) : Rat := (p.1 : Rat) / (p.2 : Rat)
/-- a list of pairs -/
def PairL (H : Hp) (vs : List V) (ps : List (Int × Int)) : Prop := vs.length = ps.length ∧ ∀ (i : Nat) (v : V) (p : Int × Int), vs[i]? = some v → ps[i]? = some p → Pair H v p.1 p.2
theorem PairL.same {H H' : Hp} {vs : List V} {ps : List (Int × Int)} (h : PairL H vs ps) (s : Same H H') : PairL H' vs ps := ⟨h.1, fun i v p a b => (h.2 i v p a b).same s⟩
theorem PairL.keep {M : Addr → Prop} {H H' : Hp} {vs : List V} {ps : List (Int × Int)} (h : PairL H vs ps) (k : Keep M H H') (l : Lsts M H) : PairL H' vs ps := ⟨h.1, fun i v p a b => (h.2 i v p a b).keep k l⟩
structure PartsP (ps : List (Int × Int)) : Prop where
  few : ps.length ≤ 8
  ok : ∀ p ∈ ps, NumP p.1 p.2
theorem ratP_add {a b c d : Int} (hb : 0 < b) (hd : 0 < d) : ((a : Rat) / (b : Rat)) + ((c : Rat) / (d : Rat)) = ((a * d + c * b : Int) : Rat) / ((b * d : Int) : Rat) := by
  have h1 := cne hb
  have h2 := cne hd
  rw [Rat.intCast_add, Rat.intCast_mul, Rat.intCast_mul, Rat.intCast_mul]
  grind
section
variable {P : Program} {w : World} {K : PySem.W.Frag} {mg : Str → Option Value} {base : Heap}
/-! ### _law_together -/
def sp_together : Sp := fun vs H Q _ => ∃ (L : Addr) (ws : List V) (ps : List (Int × Int)), vs = [.ref L] ∧ H L = some (.lst ws) ∧ PairL H ws ps ∧ PartsP ps ∧
  ∀ v t b H', Same H H' → Pair H' v t b → 0 < b → Bd 1000 t → Bd 1000 b → (t : Rat) / (b : Rat) = sumQ (ps.map ratP) → Q v H'
theorem sc_law_together : FnScope ["_law_parts", "_law_top", "_law_bottom", "_law_one", "_law_other"] ["_law_parts"] (defScope s_law_together) := ⟨rfl, rfl, rfl, by decide +kernel, rfl, by decide +kernel, by decide +kernel⟩
theorem ok_law_together (T : Tx w K mg) : DefOk P w K mg base "_law_together" 1 [] sp_together := by
  obtain ⟨fd, F⟩ := T.q_law_together
  refine DefOk.of (ps := ["_law_parts"]) F T.g_law_together (fun _ _ _ _ _ _ us hl => match us, hl with | [_], _ => rfl) (FunD.ok0 F sc_law_together (fun vs H Q E h => ?_) (fun cdv A outer s H vs Q E hr h => ?_))
  · obtain ⟨L, ws, ps, rfl, _⟩ := h
    rfl
  · obtain ⟨L, ws, ps, rfl, hL, hp, hP, hQ⟩ := h
    refine ⟨_, (pss_cons (ps_asg (pe_tup (pa_cons pe_int (pa_cons pe_int pa_nil))) (pg_tup (by rfl) (pgs_cons (pg_name (i := 1) sc_law_together.nd rfl (Or.inl rfl)) (pgs_cons (pg_name (i := 2) sc_law_together.nd rfl (Or.inl rfl)) pgs_nil))))
      (pss_cons (ps_for PassesOwn.never rfl (pi_list (pv 0)) (pg_tup (by rfl) (pgs_cons (pg_name (i := 3) sc_law_together.nd rfl (Or.inl rfl)) (pgs_cons (pg_name (i := 4) sc_law_together.nd rfl (Or.inl rfl)) pgs_nil))) (pss_one (ps_par (i := 1) (j := 2) (by rfl) sc_law_together.nd rfl rfl (by decide) rfl rfl (pa_cons (pe_op op_add (pe_op op_mulW (pv 1) (pv 4)) (pe_op op_mulW (pv 3) (pv 2))) (pa_cons (pe_op op_mulW (pv 2) (pv 4)) pa_nil)) (by rfl))))
      (pss_one (ps_ret (pe_tup (pa_cons (pv 1) (pa_cons (pv 2) pa_nil))))))), ?_⟩
    refine ⟨by show 2 ≤ sizeLine; decide, fun tt nt => ⟨tt, _, rfl, SqT.of upd_same, rfl, _, _, rfl, _, _, rfl, rfl, ?_⟩⟩
    have s1 := Same.upd (o := .tup [.int 0, .int 1]) nt
    refine ⟨_, rfl, L, rfl, ⟨_, SqL.of (s1 _ _ hL)⟩, for_list (K := K) (a := L) (xs := ws) (fun i σ H' => ∃ (t b : Int) (z1 z2 : Option V), σ = [some (.ref L), some (.int t), some (.int b), z1, z2] ∧ Same H H' ∧ 0 < b ∧ Bd (42 * i + 1) t ∧ Bd (25 * i + 1) b ∧ (t : Rat) / (b : Rat) = sumQ ((ps.take i).map ratP))
      ⟨0, 1, none, none, rfl, s1, by decide, by unfold Bd; decide, by unfold Bd; decide, show ((0 : Int) : Rat) / ((1 : Int) : Rat) = 0 by decide +kernel⟩ (fun i σ H' _ ⟨_, _, _, _, _, s2, _⟩ => SqL.of (s2 _ _ hL)) ?_ ?_⟩
    · rintro i x σ H' hi ⟨t, b, z1, z2, rfl, s2, hb, bt, bb, hs⟩
      have hlt : i < ps.length := by
        have := (List.getElem?_eq_some_iff.mp hi).1
        rw [hp.1] at this
        exact this
      obtain ⟨p, hpp⟩ : ∃ p, ps[i]? = some p := ⟨_, List.getElem?_eq_getElem hlt⟩
      obtain ⟨pa, rfl, epa⟩ := (hp.2 i x p hi hpp).same s2
      obtain ⟨pb, b2, b1⟩ := hP.ok p (List.mem_of_getElem? hpp)
      have few := hP.few
      refine ⟨pa, _, rfl, SqT.of epa, rfl, _, _, rfl, _, _, rfl, rfl, ?_⟩
      have m1 : Bd (42 * i + 1 + 24) (t * p.2) := bt.mul b2
      have m2 : Bd (25 * i + 1 + 16) (p.1 * b) := (b1.mul bb).mono (by omega)
      have m3 : Bd (25 * i + 1 + 24) (b * p.2) := bb.mul b2
      refine ⟨_, rfl, _, rfl, _, _, rfl, rfl, wide_mul bt b2 (by omega) (by decide) (by omega), _, rfl, _, rfl, _, _, rfl, rfl, wide_mul b1 bb (by decide) (by omega) (by omega), _, _, rfl, rfl, _, rfl, _, rfl, _, _, rfl, rfl, wide_mul bb b2 (by omega) (by decide) (by omega), _, _, rfl, ?_⟩
      refine ⟨t * p.2 + p.1 * b, b * p.2, _, _, rfl, s2, Int.mul_pos hb pb, ((m1.mono (show 42 * i + 1 + 24 ≤ 42 * (i + 1) by omega)).add (m2.mono (by omega))), m3.mono (by omega), ?_⟩
      rw [List.take_add_one, hpp, ← ratP_add hb pb, hs, List.map_append, sumQ_append]
      show sumQ _ + ratP p = sumQ _ + (ratP p + 0)
      grind
    · rintro σ H' ⟨t, b, z1, z2, rfl, s2, hb, bt, bb, hs⟩
      have few := hP.few
      rw [hp.1] at bt bb hs
      rw [List.take_length] at hs
      refine ⟨_, rfl, _, rfl, by show 2 ≤ sizeLine; decide, fun q nq => ?_⟩
      exact hQ _ t b _ (Same.updOf s2 nq) ⟨q, rfl, upd_same⟩ hb (bt.mono (by omega)) (bb.mono (by omega)) hs
/-! ### _law_put_so -/
theorem far_lt {r : Rat} {g m : Int} (hm : 0 < m) : (r.num * m < g * (r.den : Int)) ↔ r < (g : Rat) / (m : Rat) := by
  have hp := cpos hm
  have hd := cpos (dpos r)
  rw [Rat.lt_div_iff hp]
  have e : (r.num : Rat) = r * ((r.den : Int) : Rat) := by
    have h1 := nd r
    have h2 := cne (dpos r)
    grind
  have e1 : ((r.num * m : Int) : Rat) = (r * (m : Rat)) * ((r.den : Int) : Rat) := by rw [Rat.intCast_mul, e]; grind
  have e2 : ((g * (r.den : Int) : Int) : Rat) = (g : Rat) * ((r.den : Int) : Rat) := Rat.intCast_mul _ _
  constructor
  · intro h
    have h2 := Rat.intCast_lt_intCast.mpr h
    rw [e1, e2] at h2
    exact Rat.lt_of_mul_lt_mul_right h2 (Rat.le_of_lt hd)
  · intro h
    have h2 := Rat.mul_lt_mul_of_pos_right h hd
    rw [← e1, ← e2] at h2
    exact Rat.intCast_lt_intCast.mp h2
theorem lt_far {r : Rat} {g m : Int} (hm : 0 < m) : (g * (r.den : Int) < r.num * m) ↔ (g : Rat) / (m : Rat) < r := by
  have hp := cpos hm
  have hd := cpos (dpos r)
  rw [Rat.div_lt_iff hp]
  have e : (r.num : Rat) = r * ((r.den : Int) : Rat) := by
    have h1 := nd r
    have h2 := cne (dpos r)
    grind
  have e1 : ((r.num * m : Int) : Rat) = (r * (m : Rat)) * ((r.den : Int) : Rat) := by rw [Rat.intCast_mul, e]; grind
  have e2 : ((g * (r.den : Int) : Int) : Rat) = (g : Rat) * ((r.den : Int) : Rat) := Rat.intCast_mul _ _
  constructor
  · intro h
    have h2 := Rat.intCast_lt_intCast.mpr h
    rw [e1, e2] at h2
    exact Rat.lt_of_mul_lt_mul_right h2 (Rat.le_of_lt hd)
  · intro h
    have h2 := Rat.mul_lt_mul_of_pos_right h hd
    rw [← e1, ← e2] at h2
    exact Rat.intCast_lt_intCast.mp h2
/-- the law's own clauses -/
def putI (l g m c far : Int) : Bool := if (if c = l then (decide (g = 0) || decide (far ≤ 0)) else false) = true then true else (decide (c = l + 1) && (decide (0 < g) && decide (0 ≤ far)))
theorem put_eq {t b s0 s1 c : Int} {r : Rat} (hb : 0 < b) (h0 : 0 < s0) (h1 : 0 < s1) :
    putI (t * s1 / (b * s0)) (t * s1 % (b * s0)) (b * s0) c (t * s1 % (b * s0) * (r.den : Int) - r.num * (b * s0)) = putOk (rat t b s0 s1) c r := by
  have hm := Int.mul_pos hb h0
  rw [rat_eq hb h0 h1]
  have hf := fl_div (a := t * s1) hm
  have hr := fr_div (a := t * s1) hm
  have hz := fr_div_zero (a := t * s1) hm
  have a1 := far_lt (r := r) (g := t * s1 % (b * s0)) hm
  have a2 := lt_far (r := r) (g := t * s1 % (b * s0)) hm
  have g0 := Int.emod_nonneg (t * s1) (show b * s0 ≠ 0 by omega)
  rw [← hr] at a1 a2
  rw [← fr_zero] at hz
  unfold putI putOk
  rw [hf]
  generalize fr (((t * s1 : Int) : Rat) / ((b * s0 : Int) : Rat)) = f at *
  generalize t * s1 / (b * s0) = l at *
  generalize t * s1 % (b * s0) = g at *
  have e1 : decide (g * (r.den : Int) - r.num * (b * s0) ≤ 0) = !decide (r < f) := by
    by_cases h : r < f
    · rw [decide_eq_true h]
      have := a1.mpr h
      exact decide_eq_false (by omega)
    · rw [decide_eq_false h]
      have : ¬ r.num * (b * s0) < g * (r.den : Int) := fun z => h (a1.mp z)
      exact decide_eq_true (by omega)
  have e2 : decide (0 ≤ g * (r.den : Int) - r.num * (b * s0)) = !decide (f < r) := by
    by_cases h : f < r
    · rw [decide_eq_true h]
      have := a2.mpr h
      exact decide_eq_false (by omega)
    · rw [decide_eq_false h]
      have : ¬ g * (r.den : Int) < r.num * (b * s0) := fun z => h (a2.mp z)
      exact decide_eq_true (by omega)
  have e3 : decide (g = 0) = decide (f = 0) := decide_eq_decide.mpr hz
  have e4 : decide (0 < g) = !decide (f = 0) := by
    by_cases h : f = 0
    · rw [decide_eq_true h]
      have := hz.mpr h
      exact decide_eq_false (by omega)
    · rw [decide_eq_false h]
      have : ¬ g = 0 := fun z => h (hz.mp z)
      exact decide_eq_true (by omega)
  rw [e1, e2, e3, e4]
  by_cases c0 : c = l
  · rw [if_pos c0, if_pos c0, decide_eq_false (show ¬ c = l + 1 by omega), Bool.false_and]
    cases decide (f = 0) || !decide (r < f) <;> rfl
  · rw [if_neg c0, if_neg c0, if_neg (by decide)]
def sp_law_put (K : PySem.W.Frag) : Sp := fun vs H Q _ => ∃ (x y e : V) (t b s0 s1 c : Int) (r : Rat), vs = [x, y, .int c, e] ∧ Pair H x t b ∧ Pair H y s0 s1 ∧ NumV (CN K) H e r ∧ 0 < b ∧ 0 < s0 ∧ 0 < s1 ∧ Bd 400 t ∧ Bd 400 b ∧ Bd 60 s0 ∧ Bd 60 s1 ∧ Sz 400 r ∧
  ∀ H', Same H H' → Q (.bl (putOk (rat t b s0 s1) c r)) H'
theorem sc_law_put_so : FnScope ["_law_part", "_law_step", "_law_count", "_law_edge", "_law_lesser", "_law_rest", "_law_whole_here", "_law_far"] ["_law_part", "_law_step", "_law_count", "_law_edge"] (defScope s_law_put_so) := ⟨rfl, rfl, rfl, by decide +kernel, rfl, by decide +kernel, by decide +kernel⟩
theorem ok_law_put_so (T : Tx w K mg) : DefOk P w K mg base "_law_put_so" 2 [] (sp_law_put K) := by
  obtain ⟨fd, F⟩ := T.q_law_put_so
  refine DefOk.of (ps := ["_law_part", "_law_step", "_law_count", "_law_edge"]) F T.g_law_put_so (fun _ _ _ _ _ _ us hl => match us, hl with | [_, _, _, _], _ => rfl) (FunD.ok0 F sc_law_put_so (fun vs H Q E h => ?_) (fun cdv A outer s H vs Q E hr h => ?_))
  · obtain ⟨x, y, e, t, b, s0, s1, c, r, rfl, _⟩ := h
    rfl
  · obtain ⟨x, y, e, t, b, s0, s1, c, r, rfl, hx, hy, he, hb, h0, h1, bt, bb, b0, b1, sr, hQ⟩ := h
    refine ⟨_, (pss_cons (ps_asg (pe_d (ok_law_beyond T) (hr.mono (by decide)) (pa_cons (pv 0) (pa_cons (pv 1) pa_nil))) (pg_tup (by rfl) (pgs_cons (pg_name (i := 4) sc_law_put_so.nd rfl (Or.inl rfl)) (pgs_cons (pg_tup (by rfl) (pgs_cons (pg_name (i := 5) sc_law_put_so.nd rfl (Or.inl rfl)) (pgs_cons (pg_name (i := 6) sc_law_put_so.nd rfl (Or.inl rfl)) pgs_nil))) pgs_nil))))
      (pss_cons (ps_set (i := 7) sc_law_put_so.nd rfl (Or.inl rfl) (pe_op op_sub (pe_op op_mulW (pv 5) (pe_bottom T (pv 3))) (pe_op op_mulW (pe_top T (pv 3)) (pv 6))))
      (pss_one (ps_ret (pe_or (pe_and (pe_cmpR op_eq (pv 2) (pv 4) (nomark _)) (pe_one (pe_or (pe_cmpR op_eq (pv 5) pe_int (nomark _)) (pe_one (pe_cmpR op_le (pv 7) pe_int (nomark _)))))) (pe_one (pe_and (pe_cmpR op_eq (pv 2) (pe_op op_add (pv 4) pe_int) (nomark _)) (pe_and (pe_cmpR op_gt (pv 5) pe_int (nomark _)) (pe_one (pe_cmpR op_ge (pv 7) pe_int (nomark _))))))))))), ?_⟩
    refine ⟨_, rfl, _, rfl, x, y, t, b, s0, s1, rfl, hx, hy, hb, h0, bt.mono (by decide), bb.mono (by decide), b0, b1, fun p q H1 s1' np ep eq => ⟨p, _, rfl, SqT.of ep, rfl, _, _, rfl, _, _, rfl, ⟨q, _, rfl, SqT.of eq, rfl, _, _, rfl, _, _, rfl, rfl, rfl, ?_⟩⟩⟩
    have hput := put_eq (t := t) (c := c) (r := r) hb h0 h1
    rw [← hput] at hQ
    have hm := Int.mul_pos hb h0
    have bm : Bd 460 (b * s0) := bb.mul b0
    have g0 := Int.emod_nonneg (t * s1) (show b * s0 ≠ 0 by omega)
    have g1 := Int.emod_lt_of_pos (t * s1) hm
    have bg : Bd 460 (t * s1 % (b * s0)) := by
      unfold Bd at *
      omega
    generalize t * s1 / (b * s0) = l at *
    generalize t * s1 % (b * s0) = g at *
    generalize b * s0 = m at *
    have he1 := he.same s1'
    refine ⟨_, rfl, _, rfl, r, he1, _, _, rfl, rfl, wide_mul bg sr.2 (by decide) (by decide) (by decide), _, rfl, r, he1, _, rfl, _, _, rfl, rfl, wide_mul sr.1 bm (by decide) (by decide) (by decide), _, _, rfl, rfl, ?_⟩
    have q := hQ H1 s1'
    unfold putI at q
    refine ⟨_, rfl, _, rfl, rfl, _, rfl, ?_⟩
    rw [int_dec]
    by_cases c0 : c = l
    · rw [if_pos c0, decide_eq_false (show ¬ c = l + 1 by omega), Bool.false_and] at q
      rw [decide_eq_true c0]
      refine iteT ⟨_, rfl, rfl, _, rfl, ?_⟩
      rw [int_dec]
      by_cases c1 : g = 0
      · rw [decide_eq_true c1, Bool.true_or, if_pos rfl] at q
        rw [decide_eq_true c1]
        exact iteT ⟨_, rfl, iteT q⟩
      · rw [decide_eq_false c1, Bool.false_or] at q
        rw [decide_eq_false c1]
        refine iteF ⟨_, rfl, _, _, rfl, rfl, _, rfl, ?_⟩
        by_cases c2 : g * (r.den : Int) - r.num * m ≤ 0
        · rw [decide_eq_true c2, if_pos rfl] at q
          rw [decide_eq_true c2]
          exact iteT q
        · rw [decide_eq_false c2, if_neg (by decide)] at q
          rw [decide_eq_false c2]
          refine iteF ⟨_, rfl, _, rfl, _, _, rfl, rfl, rfl, _, rfl, ?_⟩
          rw [int_dec, decide_eq_false (show ¬ c = l + 1 by omega)]
          exact iteF q
    · rw [if_neg c0, if_neg (by decide)] at q
      rw [decide_eq_false c0]
      refine iteF ⟨_, rfl, iteF ⟨_, rfl, _, rfl, _, _, rfl, rfl, rfl, _, rfl, ?_⟩⟩
      rw [int_dec]
      by_cases c1 : c = l + 1
      · rw [decide_eq_true c1, Bool.true_and] at q
        rw [decide_eq_true c1]
        refine iteT ⟨_, rfl, _, _, rfl, rfl, _, rfl, ?_⟩
        by_cases c2 : 0 < g
        · rw [decide_eq_true c2, Bool.true_and] at q
          rw [decide_eq_true c2]
          exact iteT ⟨_, rfl, _, _, rfl, rfl, q⟩
        · rw [decide_eq_false c2, Bool.false_and] at q
          rw [decide_eq_false c2]
          exact iteF q
      · rw [decide_eq_false c1, Bool.false_and] at q
        rw [decide_eq_false c1]
        exact iteF q
/-! ### _law_sum_due -/
theorem top_neg {r : Rat} : (r.num < 0) ↔ ¬ 0 ≤ r := by
  rw [← Rat.num_nonneg]
  omega
theorem top_more {r : Rat} : ((r.den : Int) < r.num) ↔ ¬ r ≤ 1 := by
  rw [Rat.not_le]
  have h := far_lt (r := r) (g := 1) (m := 1) (by decide)
  have h2 := lt_far (r := r) (g := 1) (m := 1) (by decide)
  have e : ((1 : Int) : Rat) / ((1 : Int) : Rat) = 1 := by decide +kernel
  rw [e, Int.one_mul, Int.mul_one] at h2
  exact h2
def sp_sum_due (K : PySem.W.Frag) : Sp := fun vs H Q _ => ∃ (M : Addr → Prop) (L : Addr) (ws : List V) (ps : List (Int × Int)) (y v : V) (s0 s1 : Int) (d : D), vs = [.ref L, y, v] ∧ H L = some (.lst ws) ∧ PairL H ws ps ∧ PartsP ps ∧ Pair H y s0 s1 ∧ (s0, s1) ∈ stepPairs ∧ Rep (CN K) M H v d ∧ Fine 400 d ∧
  ∀ H', Same H H' → Q (.bl (sumB ((ps.map ratP).map (· / ((s0 : Rat) / (s1 : Rat)))) d)) H'
theorem sc_law_sum_due : FnScope ["_law_parts", "_law_step", "_law_thing", "_law_counts", "_law_edge", "_law_part", "_law_count", "_law_one"] ["_law_parts", "_law_step", "_law_thing"] (defScope s_law_sum_due) := ⟨rfl, rfl, rfl, by decide +kernel, rfl, by decide +kernel, by decide +kernel⟩
theorem ok_law_sum_due (T : Tx w K mg) : DefOk P w K mg base "_law_sum_due" 4 [] (sp_sum_due K) := by
  obtain ⟨fd, F⟩ := T.q_law_sum_due
  refine DefOk.of (ps := ["_law_parts", "_law_step", "_law_thing"]) F T.g_law_sum_due (fun _ _ _ _ _ _ us hl => match us, hl with | [_, _, _], _ => rfl) (FunD.ok0 F sc_law_sum_due (fun vs H Q E h => ?_) (fun cdv A outer s H vs Q E hr h => ?_))
  · obtain ⟨M, L, ws, ps, y, v, s0, s1, d, rfl, _⟩ := h
    rfl
  · obtain ⟨M, PL, pvs, ps, y, v, s0, s1, d, rfl, hL, hpl, hP, hy, hst, hd, hf, hQ⟩ := h
    obtain ⟨p0, p1, b0, b1⟩ := step_pos hst
    have hm := step_mem hst
    obtain ⟨h0, _, _, _, _, _⟩ := steps_ok _ hm
    refine ⟨_, (pss_cons (ps_if (PW.pt (pw_or (pt_not (pt_val (pe_callB call_isi (by rfl) T.n_isinstance (by decide +kernel) (pa_cons (pv 2) (pa_cons (pe_bltn (v := .ty "tuple") (by rfl) (T.n_tuple) (by decide +kernel) rfl) pa_nil))))) (pw_or (pt_cmpR op_ne (pe_callB call_len_seq (by rfl) T.n_len (by decide +kernel) (pa_cons (pv 2) pa_nil)) pe_int (nomark _)) (pw_or1 (pt_not (pt_val (pe_callB call_isi (by rfl) T.n_isinstance (by decide +kernel) (pa_cons (pe_ix ix_tup (pv 2) pe_int (fun _ _ => rfl)) (pa_cons (pe_bltn (v := .ty "tuple") (by rfl) (T.n_tuple) (by decide +kernel) rfl) pa_nil))))))))) (pss_one (ps_ret pe_bl)) pss_nil)
      (pss_cons (ps_asg (pv 2) (pg_tup (by rfl) (pgs_cons (pg_name (i := 3) sc_law_sum_due.nd rfl (Or.inl rfl)) (pgs_cons (pg_name (i := 4) sc_law_sum_due.nd rfl (Or.inr rfl)) pgs_nil))))
      (pss_cons (ps_if (PW.pt (pw_or (pt_cmpR op_ne (pe_callB call_len_seq (by rfl) T.n_len (by decide +kernel) (pa_cons (pv 3) pa_nil)) (pe_callB call_len_seq (by rfl) T.n_len (by decide +kernel) (pa_cons (pv 0) pa_nil)) (nomark _)) (pw_or1 (pt_cmpR (op_neE (hr.mono (by decide))) (pe_lc (own := [("_law_one", 7)]) (by rfl) sc_law_sum_due.nd (pi_tup (pv 3)) (blkOk_by (N := ["_law_parts", "_law_step", "_law_thing", "_law_counts", "_law_edge", "_law_part", "_law_count", "_law_one"]) (sc := defScope s_law_sum_due) (by decide +kernel)) (fun _ _ _ _ _ => (pg_name (i := 7) sc_law_sum_due.nd rfl (Or.inl rfl))) (fun _ _ _ _ _ => (pts_one (pt_not (pt_val (pe_d (ok_law_whole T) (hr.mono (by decide)) (pa_cons (pv 7) pa_nil)))))) (fun _ _ _ _ _ => pe_int)) (pe_lst pa_nil) (nomark _))))) (pss_one (ps_ret pe_bl)) pss_nil)
      (pss_cons (ps_if (PW.pt (pw_or (pt_not (pt_val (pe_callB call_isi (by rfl) T.n_isinstance (by decide +kernel) (pa_cons (pv 4) (pa_cons (pe_num T) pa_nil))))) (pw_or (pt_cmpR op_lt (pe_top T (pv 4)) pe_int (nomark _)) (pw_or1 (pt_cmpR op_gt (pe_top T (pv 4)) (pe_bottom T (pv 4)) (nomark _)))))) (pss_one (ps_ret pe_bl)) pss_nil)
      (pss_cons (ps_if (pt_cmpR op_ne (pe_callB (FgZ.cr_sumT rfl) (by rfl) T.n_sum (by decide +kernel) (pa_cons (pv 3) pa_nil)) (pe_d (ok_law_steps T) (hr.mono (by decide)) (pa_cons (pe_d (ok_law_together T) (hr.mono (by decide)) (pa_cons (pv 0) pa_nil)) (pa_cons (pv 1) (pa_cons pe_str pa_nil)))) (nomark _)) (pss_one (ps_ret pe_bl)) pss_nil)
      (pss_one (ps_ret (pe_cmpR (op_eqE (hr.mono (by decide))) (pe_lc (own := [("_law_part", 5), ("_law_count", 6)]) (by rfl) sc_law_sum_due.nd (FgZ.pi_zipM (by rfl) T.n_zip (pa_cons (pv 0) (pa_cons (pv 3) pa_nil))) (blkOk_by (N := ["_law_parts", "_law_step", "_law_thing", "_law_counts", "_law_edge", "_law_part", "_law_count", "_law_one"]) (sc := defScope s_law_sum_due) (by decide +kernel)) (fun _ _ _ _ _ => (pg_tupK (K0 := K) (n := 2) (by rfl) (by rfl) (pgs_cons (pg_name (i := 5) sc_law_sum_due.nd rfl (Or.inl rfl)) (pgs_cons (pg_name (i := 6) sc_law_sum_due.nd rfl (Or.inl rfl)) pgs_nil)))) (fun _ _ _ _ _ => (pts_one (pt_not (pt_val (pe_d (ok_law_put_so T) (hr.mono (by decide)) (pa_cons (pv 5) (pa_cons (pv 1) (pa_cons (pv 6) (pa_cons (pv 4) pa_nil))))))))) (fun _ _ _ _ _ => pe_int)) (pe_lst pa_nil) (nomark _))))))))), ?_⟩
    refine ⟨_, rfl, _, _, _, _, _, rfl, .ty _, T.ty.of hd, T.ty.kTup d, _, rfl, ?_⟩
    generalize hxs : (ps.map ratP).map (· / ((s0 : Rat) / (s1 : Rat))) = xs at *
    have lxs : xs.length = ps.length := by rw [← hxs, List.length_map, List.length_map]
    have bad : ∀ H', Same H H' → sumB xs d = false → Q (.bl false) H' := fun H' s e => by
      have r := hQ H' s
      rw [e] at r
      exact r
    cases ct : d.isTup with
    | false => exact iteT (bad H (Same.refl H) (sumB_not ct))
    | true =>
    obtain ⟨ds, rfl⟩ : ∃ ds, d = .tup ds := by
      cases d <;> first | exact ⟨_, rfl⟩ | cases ct
    obtain ⟨a, vs, rfl, ea, hrs⟩ := rep_tup hd
    have hlv := hrs.length
    refine iteF ⟨_, rfl, a, _, rfl, .inr (SqT.of ea), rfl, _, rfl, ?_⟩
    by_cases c3 : ¬ ds.length = 2
    · rw [decide_eq_false (show ¬ V.int (vs.length : Int) = V.int 2 from fun z => c3 (by injection z with z; omega))]
      exact iteT (bad H (Same.refl H) (sumB_len c3))
    replace c3 : ds.length = 2 := Classical.not_not.mp c3
    rw [decide_eq_true (show V.int (vs.length : Int) = V.int 2 by rw [hlv, c3]; rfl)]
    match ds, c3 with
    | [d1, d2], _ =>
    obtain ⟨v1, v2, rfl, r1, r2⟩ : ∃ v1 v2, vs = [v1, v2] ∧ Rep (CN K) M H v1 d1 ∧ Rep (CN K) M H v2 d2 := by
      match vs, hlv with
      | [v1, v2], _ =>
        have h1 := reps_cons.mp hrs
        have h2 := reps_cons.mp h1.2
        exact ⟨v1, v2, rfl, h1.1, h2.1⟩
    obtain ⟨f1, f2, _⟩ : Fine 400 d1 ∧ Fine 400 d2 ∧ True := by
      unfold Fine at hf
      simpa only [Fines] using hf
    refine iteF ⟨_, rfl, a, _, _, _, rfl, rfl, SqT.of ea, atI_nat (j := 0) rfl, _, _, _, _, _, rfl, .ty _, T.ty.of r1, T.ty.kTup d1, _, rfl, ?_⟩
    cases ct1 : d1.isTup with
    | false => exact iteT (bad H (Same.refl H) (sumB_first ct1))
    | true =>
    obtain ⟨es, rfl⟩ : ∃ es, d1 = .tup es := by
      cases d1 <;> first | exact ⟨_, rfl⟩ | cases ct1
    obtain ⟨b, ws, rfl, eb, hws⟩ := rep_tup r1
    have hlw := hws.length
    refine iteF ?_
    have hpp := hpl.1
    refine ⟨_, rfl, a, _, rfl, SqT.of ea, rfl, _, _, rfl, _, _, rfl, rfl, ?_⟩
    refine ⟨_, rfl, b, _, rfl, .inr (SqT.of eb), _, rfl, PL, _, rfl, .inl (SqL.of hL), rfl, _, rfl, ?_⟩
    have bad2 : ∀ H', Same H H' → (decide (es.length = xs.length) = false ∨ intsOf es = none) → Q (.bl false) H' := fun H' s e => bad H' s (by
      rw [sumB_two]
      rcases e with e | e
      · rw [e, Bool.false_and]
      · rw [e]
        simp)
    by_cases c4 : ¬ es.length = ps.length
    · rw [decide_eq_false (show ¬ V.int (ws.length : Int) = V.int (pvs.length : Int) from fun z => c4 (by injection z with z; omega))]
      exact iteT (bad2 H (Same.refl H) (.inl (decide_eq_false (by rw [lxs]; exact c4))))
    replace c4 : es.length = ps.length := Classical.not_not.mp c4
    rw [decide_eq_true (show V.int (ws.length : Int) = V.int (pvs.length : Int) by rw [hlw, hpp, c4])]
    refine iteF ?_
    have few := hP.few
    refine ⟨_, rfl, b, rfl, ⟨_, SqT.of eb⟩, fun L nL => lc_tup (K := K) (a := b) (xs := ws) (fun i H' => Same H H' ∧ H' L = some (.lst (intL (ones (fun d => !D.isInt d) (es.take i)))))
      ⟨Same.upd nL, upd_same⟩ (fun i H' _ ⟨s3, _⟩ => SqT.of (s3 _ _ eb)) ?_ ?_⟩
    · rintro i r H' hi ⟨s3, hD⟩
      obtain ⟨e, he, hre⟩ := hws.getV hi
      refine ⟨rfl, _, rfl, M, r, e, rfl, hre.same s3, _, rfl, ?_⟩
      have eo := ones_take (f := fun d => !D.isInt d) he
      cases ci : e.isInt with
      | true =>
        refine iteF ⟨s3, ?_⟩
        rw [eo, hD]
        simp [ci]
      | false =>
        refine iteT ⟨_, hD, ?_, ?_, ?_⟩
        · have := ones_len (fun d => !D.isInt d) es i
          rw [sizeLine_eq]
          omega
        · intro b2 o e2
          rw [upd_ne (ne_of_none e2 nL)]
          exact s3 _ _ e2
        · rw [upd_same, eo]
          simp only [ci, Bool.not_false, if_true]
          unfold intL
          rw [List.map_append]
          rfl
    · rintro H1 ⟨s1', hD⟩
      rw [hlw, List.take_length] at hD
      refine ⟨by show 0 ≤ sizeLine; decide, fun E1 nE1 => ⟨L, E1, _, rfl, rfl, Same.upd nE1 _ _ hD, upd_same, _, rfl, ?_⟩⟩
      have s2 := Same.updOf (o := .lst []) s1' nE1
      rw [ones_empty]
      have eai : (es.all fun d => !!D.isInt d) = es.all D.isInt := by congr 1; funext d; simp
      rw [eai]
      cases ca : es.all D.isInt with
      | false => exact iteT (bad2 _ s2 (.inr (intsOf_none ca)))
      | true =>
      obtain ⟨cs, rfl⟩ := all_ints ca
      have lcs : cs.length = ps.length := by rw [← c4, List.length_map]
      have hwi : ws = cs.map V.int := by
        apply List.ext_getElem?
        intro i
        by_cases hi : i < ws.length
        · obtain ⟨e, he, hre⟩ := hws.getV (List.getElem?_eq_getElem hi)
          rw [List.getElem?_map] at he
          cases hc : cs[i]? with
          | none => rw [hc] at he; cases he
          | some c =>
            rw [hc] at he
            cases he
            rw [List.getElem?_eq_getElem hi, rep_int hre, List.getElem?_map, hc]
            rfl
        · rw [List.getElem?_eq_none (by omega), List.getElem?_eq_none (by rw [List.length_map]; omega)]
      subst hwi
      generalize hH2 : upd H1 E1 (.lst []) = H2 at *
      refine iteF ⟨_, rfl, _, _, _, _, _, rfl, .own _, T.ty.of (r2.same s2), T.ty.kNum d2, _, rfl, ?_⟩
      have badT : thrB d2 = false → Q (.bl false) H2 := fun e => bad H2 s2 (sumB_thr e)
      cases cn : d2.isNum with
      | false => exact iteT (badT (by cases d2 <;> first | rfl | cases cn))
      | true =>
      obtain ⟨t, rfl⟩ : ∃ t, d2 = .num t := by cases d2 <;> first | exact ⟨_, rfl⟩ | cases cn
      have hth : NumV (CN K) H v2 t := by unfold Rep at r2; exact r2
      have szt : Sz 400 t := by unfold Fine at f2; exact f2
      have hth2 := hth.same s2
      refine iteF ⟨_, rfl, t, hth2, _, _, rfl, rfl, _, rfl, ?_⟩
      by_cases t0 : t.num < 0
      · rw [decide_eq_true t0]
        exact iteT (badT (by show (decide (0 ≤ t) && _) = false; rw [decide_eq_false (top_neg.mp t0), Bool.false_and]))
      rw [decide_eq_false t0]
      refine iteF ⟨_, rfl, t, hth2, _, rfl, t, hth2, _, _, rfl, rfl, _, rfl, ?_⟩
      by_cases t1 : (t.den : Int) < t.num
      · rw [decide_eq_true t1]
        exact iteT (badT (by show (_ && decide (t ≤ 1)) = false; rw [decide_eq_false (top_more.mp t1), Bool.and_false]))
      rw [decide_eq_false t1]
      refine iteF ?_
      have cth : thrB (.num t) = true := by
        show (decide (0 ≤ t) && decide (t ≤ 1)) = true
        rw [decide_eq_true (Classical.not_not.mp fun z => t0 (top_neg.mpr z)), decide_eq_true (Classical.not_not.mp fun z => t1 (top_more.mpr z))]
        rfl
      refine ⟨_, rfl, b, cs, rfl, SqT.of (s2 _ _ eb), _, rfl, PL, pvs, ps, rfl, s2 _ _ hL, hpl.same s2, hP, fun u tT tB H3 s3 pu hB bT bB hTB => ⟨_, rfl, u, y, tT, tB, s0, s1, .heven, rfl, pu, (hy.same s2).same s3, hB, p0, p1, bT.mono (by decide), bB.mono (by decide), b0, b1, fun H4 s4 => ⟨rfl, _, rfl, ?_⟩⟩⟩
      have s04 := (s2.trans s3).trans s4
      have erat : rat tT tB s0 s1 = sumQ xs := by
        unfold rat
        rw [hTB, ← hxs, sumQ_div _ (ne0 h0)]
      rw [int_dec, erat]
      have good : ∀ bb H', Same H H' → (decide (cs.sum = cnt .heven (sumQ xs)) && (xs.zip cs).all fun p => putOk p.1 p.2 t) = bb → Q (.bl bb) H' := fun bb H' s e => by
        have r := hQ H' s
        rw [sumB_two, intsOf_map] at r
        have h3 : (decide (0 ≤ t) && decide (t ≤ 1)) = true := cth
        have h4 : decide ((cs.map D.int).length = xs.length) = true := decide_eq_true (by rw [List.length_map, lxs, lcs])
        simp only [h3, h4, Bool.true_and] at r
        rw [e] at r
        exact r
      by_cases c5 : ¬ cs.sum = cnt .heven (sumQ xs)
      · rw [decide_eq_false c5]
        exact iteT (good false H4 s04 (by rw [decide_eq_false c5, Bool.false_and]))
      replace c5 := Classical.not_not.mp c5
      rw [decide_eq_true c5]
      refine iteF ?_
      refine ⟨_, rfl, _, rfl, PL, b, pvs, _, rfl, SqL.of (s04 _ _ hL), SqT.of (s04 _ _ eb), fun L2 nL2 => lc_it (FgZ.walkM (n := ps.length) hpp (by rw [List.length_map, lcs]))
        (fun i H' => Same H4 H' ∧ H' L2 = some (.lst (intL (ones (fun p => !putOk p.1 p.2 t) ((xs.zip cs).take i))))) ⟨Same.upd nL2, upd_same⟩ (fun i H' _ ⟨s6, _⟩ => ⟨SqL.of ((s04.trans s6) _ _ hL), SqT.of ((s04.trans s6) _ _ eb)⟩) ?_ ?_⟩
      · rintro i v H' H6 hi ⟨s6, hD2⟩ ⟨t2, u1, u2, rfl, nt, rfl, e1, e2⟩
        have s7 := Same.updOf (o := .tup [u1, u2]) s6 nt
        have s07 := s04.trans s7
        have e1' : pvs[i]? = some u1 := e1
        have e2' : (cs.map V.int)[i]? = some u2 := e2
        obtain ⟨p, hpi⟩ : ∃ p, ps[i]? = some p := ⟨_, List.getElem?_eq_getElem hi⟩
        have hpair := (hpl.2 i u1 p e1' hpi).same s07
        obtain ⟨pb, bb2, bt2⟩ := hP.ok p (List.mem_of_getElem? hpi)
        rw [List.getElem?_map] at e2'
        cases hc : cs[i]? with
        | none => rw [hc] at e2'; cases e2'
        | some c =>
        rw [hc] at e2'
        cases e2'
        refine ⟨t2, _, rfl, SqT.of upd_same, rfl, _, _, rfl, _, _, rfl, rfl, rfl, _, rfl, _, rfl, _, rfl, _, rfl, u1, y, v2, p.1, p.2, s0, s1, c, t, rfl, hpair, hy.same s07, hth.same s07, pb, p0, p1, bt2.mono (by decide), bb2.mono (by decide), b0, b1, szt, fun H8 s8 => ⟨_, rfl, ?_⟩⟩
        have ez : (xs.zip cs)[i]? = some (rat p.1 p.2 s0 s1, c) := by
          rw [List.getElem?_zip_eq_some]
          refine ⟨?_, hc⟩
          rw [← hxs, List.getElem?_map, List.getElem?_map, hpi]
          rfl
        have eo := ones_take (f := fun p => !putOk p.1 p.2 t) ez
        have hD8 := s8 _ _ ((Same.upd nt) _ _ hD2)
        cases ci : putOk (rat p.1 p.2 s0 s1) c t with
        | true =>
          refine iteF ⟨s7.trans s8, ?_⟩
          rw [eo, hD8]
          simp [ci]
        | false =>
          refine iteT ⟨_, hD8, ?_, ?_, ?_⟩
          · have := ones_len (fun p => !putOk p.1 p.2 t) (xs.zip cs) i
            rw [List.length_zip] at this
            rw [sizeLine_eq]
            omega
          · intro b3 o e3
            rw [upd_ne (ne_of_none e3 nL2)]
            exact (s7.trans s8) _ _ e3
          · rw [upd_same, eo]
            simp only [ci, Bool.not_false, if_true]
            unfold intL
            rw [List.map_append]
            rfl
      · rintro H6 ⟨s6, hD2⟩
        have lz : (xs.zip cs).length = ps.length := by rw [List.length_zip, lxs, lcs, Nat.min_self]
        rw [← lz, List.take_length] at hD2
        refine ⟨by show 0 ≤ sizeLine; decide, fun E2 nE2 => ⟨L2, E2, _, rfl, rfl, Same.upd nE2 _ _ hD2, upd_same, ?_⟩⟩
        refine good _ _ (Same.updOf (s04.trans s6) nE2) ?_
        rw [decide_eq_true c5, Bool.true_and, Bool.false_xor, ones_empty]
        congr 1
        funext p
        simp
end
end Fg
set_option Elab.async false
set_option linter.all false
set_option maxRecDepth 100000
set_option maxHeartbeats 1000000
/-! B7: a tuple turned about, a tuple == (), str of a Number. -/
namespace FgT
open PySem PySem.Spec PyProof.Rows L2 HT
section
variable {prog : Program} {w : World} {A : Around} {E : Value → Shared → Prop} {s : Shared}
theorem applied_rev {sl : Addr} {vl vu vs : Value} {n : Nat} {Q : Int × Int × Nat → Shared → Prop} (hs : s.heap.IsSliceOf sl vl vu vs) (pl : IsPart vl none) (pu : IsPart vu none) (ps : IsPart vs (some (-1)))
    (h : Q ((n : Int) - 1, -1, n) s) : wpAny (model prog w) A (Builtin.Slice.sliceApplied (.ref sl) (pure (n : Int))) Q E s := by
  obtain ⟨os, hos, hcs, hds⟩ := id hs
  unfold Builtin.Slice.sliceApplied Builtin.Slice.sliceFields
  refine wpAny_bind (wpAny_bind (wpAny_field hos hds (x := vl) rfl (wpAny_bind (wpAny_field hos hds (x := vu) rfl (wpAny_bind (wpAny_field hos hds (x := vs) rfl (wpAny_pure ?_)))))))
  refine wpAny_bind (slicePart_ ps ?_)
  show wpAny _ _ (if ((-1 : Int) == 0) = true then _ else _) _ _ s
  rw [if_neg (by decide)]
  refine wpAny_bind (slicePart_ pl (wpAny_bind (slicePart_ pu (wpAny_bind (wpAny_pure ?_)))))
  have ea : Builtin.Slice.sliceAdjust none none ((some (-1 : Int)).getD 1) (n : Int) = ((n : Int) - 1, -1) := by
    unfold Builtin.Slice.sliceAdjust
    simp
  rw [ea]
  have ep : Builtin.Slice.slicePlaces ((n : Int) - 1) (-1) ((some (-1 : Int)).getD 1) = n := by
    unfold Builtin.Slice.slicePlaces
    have h1 : ¬ ((some (-1 : Int)).getD 1 > 0) := by decide
    rw [if_neg h1]
    by_cases h0 : (n : Int) - 1 > -1
    · rw [if_pos h0]
      have e : (-((some (-1 : Int)).getD 1) : Int) = 1 := by decide
      rw [e, Int.ediv_one]
      omega
    · rw [if_neg h0]
      have : n = 0 := by omega
      rw [this]
      decide
  show wpAny _ _ (pure ((n : Int) - 1, (some (-1 : Int)).getD 1, Builtin.Slice.slicePlaces ((n : Int) - 1) (-1) ((some (-1 : Int)).getD 1))) _ _ s
  rw [ep]
  exact wpAny_pure h
theorem range_pick {α : Type} : ∀ l : List α, ((List.range l.length).filterMap fun m => l[m]?) = l
  | [] => rfl
  | a :: r => by
    rw [List.length_cons, List.range_succ_eq_map, List.filterMap_cons, List.filterMap_map]
    simp only [List.getElem?_cons_zero]
    congr 1
    exact range_pick r
theorem fm_cong {α β : Type} {f g : α → Option β} : ∀ {l : List α}, (∀ m ∈ l, f m = g m) → l.filterMap f = l.filterMap g
  | [], _ => rfl
  | a :: r, h => by
    have e := h a List.mem_cons_self
    have ih := fm_cong (l := r) fun m hm => h m (List.mem_cons_of_mem _ hm)
    simp only [List.filterMap_cons, e, ih]
theorem pick_rev (xs : Array Value) : ((List.range xs.size).filterMap fun (m : Nat) => xs[(((xs.size : Int) - 1) + (m : Int) * (-1)).toNat]?).toArray = xs.toList.reverse.toArray := by
  have e3 : ((List.range xs.size).filterMap fun (m : Nat) => xs[(((xs.size : Int) - 1) + (m : Int) * (-1)).toNat]?) = (List.range xs.size).filterMap fun (m : Nat) => xs.toList.reverse[m]? := by
    refine fm_cong fun m hm => ?_
    have hm' := List.mem_range.mp hm
    have e : (((xs.size : Int) - 1) + (m : Int) * (-1)).toNat = xs.size - 1 - m := by omega
    rw [e, Array.getElem?_eq_getElem (by omega), List.getElem?_eq_getElem (by simpa using hm'), List.getElem_reverse]
    simp
  have hl : xs.size = xs.toList.reverse.length := by simp
  rw [e3]
  congr 1
  conv => lhs; rw [hl]
  exact range_pick _
theorem getItem_rev {t sl : Addr} {items : Array Value} {vl vu vs : Value} {Q : Value → Shared → Prop} (ht : IsTup s.heap t items) (hs : s.heap.IsSliceOf sl vl vu vs) (pl : IsPart vl none) (pu : IsPart vu none) (ps : IsPart vs (some (-1)))
    (h : Q (.ref s.heap.objs.size) { s with heap := s.heap.push { cls := .type "tuple", data := .seq items.toList.reverse.toArray } }) (hsz : items.size ≤ sizeLine) : wpAny (model prog w) A (getItem (.ref t) (.ref sl)) Q E s := by
  have htake : sizeOk (.seq items.toList.reverse.toArray) := by
    show items.toList.reverse.toArray.size ≤ sizeLine
    simpa using hsz
  obtain ⟨os, hos, hcs, hds⟩ := id hs
  have hTs : s.TypeIs (.ref sl) "slice" := ⟨os, hos, hcs⟩
  unfold getItem
  try with_reducible refine wpAny_holding ?_
  first | refine wpAny_bind (wpAny_pure ?_) | skip
  refine wpAny_bind (wpAny_sequenceKey ht.typeIs (by decide) ?_)
  refine wpAny_bind (wpAny_callSpecial?_slot (name := Str.ofString "__getitem__") ht.typeIs PyProof.Rows.slot_tuple_getitem
    (wpAny_call_entry PyProof.Rows.slot_tuple_getitem ht.typeIs entry_tuple_getitem ?_ (args_tuple_getitem _ _)))
  show wpAny _ _ (Builtin.Tuple.tupleItemsOf (.ref t) >>= _) _ _ s
  refine wpAny_bind (tupleItemsOf_ ht ?_)
  refine wpAny_bind (wpAny_typeOf hTs ?_)
  rw [if_pos (by decide)]
  refine wpAny_bind (applied_rev hs pl pu ps ?_)
  show wpAny _ _ (if (((items.size : Int) - 1) == 0 && (-1 : Int) == 1 && items.size == items.size) = true then _ else _) _ _ s
  rw [if_neg (by simp), pick_rev]
  first
    | exact wpAny_bind (m := Builtin.Tuple.tupleExact _) (wpAny_newObj_type (wpAny_pure ⟨_, rfl, wpAny_pure h⟩) htake)
    | exact wpAny_bind (m := Builtin.Tuple.tupleExact _) (wpAny_newObj_type (wpAny_bind (wpAny_pure (wpAny_pure ⟨_, rfl, wpAny_pure h⟩))) htake)
    | exact wpAny_bind (wpAny_bind (m := Builtin.Tuple.tupleExact _) (wpAny_newObj_type (wpAny_pure (wpAny_pure ⟨_, rfl, wpAny_pure h⟩)) htake))
    | exact wpAny_bind (wpAny_bind (m := Builtin.Tuple.tupleExact _) (wpAny_newObj_type (wpAny_pure ⟨_, rfl, wpAny_pure h⟩) htake))
end
section
variable {X : Cx}
/-- t[::-1] of a tuple -/
def tRevT (K : PySem.W.Frag) (te : TE) : TE := fun σ H Q => te σ H fun x H1 => ∃ a xs, x = .ref a ∧ SqT K H1 a xs ∧ ∀ p, H1 p = none → Q (.ref p) (upd H1 p (.tup xs.reverse))
theorem pe_revT {e : Expr} {te : TE} {k : Nat} {p1 p2 p3 pos : Pos} (he : PE X e te) : PE X (.Subscript e (.Slice none none (some (.UnaryOp .USub (.Constant (.int 1) k p1) p2)) p3) pos) (tRevT X.K te) := by
  refine ⟨fun pins s σ H Q I h => ?_⟩
  refine Subscript_ (thn (he.run pins s σ H _ I h) fun v s1 ⟨x, H1, I1, r1, q1⟩ => ?_)
  obtain ⟨a, xs, rfl, hx, q⟩ := q1
  cases r1
  have hst : PO X (some (.UnaryOp .USub (.Constant (.int 1) k p1) p2)) (tPart (tUn (rU fun i => .int (-i)) (tC (.int 1)))) := po_some (pe_un un_neg pe_int)
  refine wpAny_Slice (thn (po_none.run pins s1 σ H1 (fun o H2 => o = none ∧ H2 = H1) I1 ⟨rfl, rfl⟩) fun vl s2 ⟨l, H2, I2, pl, el, e2⟩ => ?_)
  subst el e2
  refine thn (po_none.run pins s2 σ H2 (fun o H3 => o = none ∧ H3 = H2) I2 ⟨rfl, rfl⟩) fun vu s3 ⟨u, H3, I3, pu, eu, e3⟩ => ?_
  subst eu e3
  refine thn (hst.run pins s3 σ H3 (fun o H4 => o = some (-1) ∧ H4 = H3) I3 ⟨1, rfl, -1, rfl, rfl, rfl⟩) fun vs s4 ⟨o, H4, I4, ps, eo, e4⟩ => ?_
  subst eo e4
  have I5 : Inv X pins σ H4 { s4 with heap := s4.heap.push { cls := .type "slice", data := .fields #[vl, vu, vs] } } := I4.kept (t' := s4.toks) fun b ob q => Heap.get?_push_of_some _ q
  obtain ⟨its, r, ht, hz⟩ := I5.tuple hx
  have hlen := r.length
  show wpAny (model X.prog X.w) X.A (subscriptTail e (.Slice none none (some (.UnaryOp .USub (.Constant (.int 1) k p1) p2)) p3) (.ref a) (.ref s4.heap.objs.size)) (EP X pins σ Q) X.xe { s4 with heap := s4.heap.push { cls := .type "slice", data := .fields #[vl, vu, vs] } }
  refine tail_any (ops := [.ref a, .ref s4.heap.objs.size]) ht.typeIs (PyProof.Rows.slot_tuple_getitem.lookup) ?_ (by with_unfolding_all rfl)
  refine getItem_rev ht (Heap.IsSliceOf.new _ vl vu vs) pl pu ps ?_ (by rw [List.size_toArray]; omega)
  refine ⟨.ref _, _, I5.laid (t' := s4.toks) (o := .tup xs.reverse) (fun b ob q => Heap.get?_push_of_some _ q) (Nat.le_refl _) ?_, rfl, q _ (I5.hok.fresh (Nat.le_refl _))⟩
  exact ⟨by rw [List.length_reverse]; exact hz, _, r.reverse, ⟨_, Heap.get?_push_size _ rfl, rfl, _, rfl⟩⟩
/-- t == () -/
theorem op_eqT0 (hr : Room 2 X.A) : OpR X (compareOp .Eq) (fun x y H Q => ∃ a b xs, x = .ref a ∧ y = .ref b ∧ SqT X.K H a xs ∧ SqT X.K H b [] ∧ Q (.bl xs.isEmpty) H) := by
  intro pins s σ H x y v u Q I rx ry h
  obtain ⟨a, b, xs, rfl, rfl, ha, hb, q⟩ := h
  cases rx
  cases ry
  obtain ⟨its, r1, p1, _⟩ := I.tuple ha
  obtain ⟨its2, r2, p2, _⟩ := I.tuple hb
  cases r2
  obtain ⟨⟨cls, dd, data, sl⟩, ho, hc, n, hd⟩ := id p1
  obtain ⟨⟨cls2, dd2, data2, sl2⟩, ho2, hc2, n2, hd2⟩ := id p2
  simp only at hc hd hc2 hd2
  subst hc hd hc2 hd2
  show wpAny _ _ (richCompare .Eq (.ref a) (.ref b)) _ _ s
  refine wpAny_richCompare_same_room (op := .Eq) ⟨_, ho, rfl⟩ ⟨_, ho2, rfl⟩ F.slot_tuple_eq (call_meets F.slot_tuple_eq ⟨_, ho, rfl⟩ F.entry_tuple_eq (F.args_tuple_eq_2 _ _) (SeqAt.tuple_eqAt a b its.toArray ([] : List Value).toArray n n2 dd dd2 sl sl2 (fun _ => true)) ⟨ho, ho2, fun j _ h2 => absurd h2 (by simp), ?_⟩) hr.units0
  refine ⟨(fun x => nomatch x), .bl xs.isEmpty, H, I, ?_, q⟩
  have e : xs.isEmpty = (its.length == 0) := by rw [← r1.length]; cases xs <;> rfl
  rw [e]
  show Value.bool _ = _
  simp
end
end FgT

namespace Fg
open PySem PySem.Spec PyProof.Rows L2 LamX
/-! ### str of a Number -/
def strN (q : Rat) : Str := if (q.den : Int) = 1 then ((toString q.num : String) : Str) else ((Str.empty ++ ((toString q.num : String) : Str)) ++ Str.ofString "/") ++ ((toString (q.den : Int) : String) : Str)
theorem int_small (i : Int) : ∀ c ∈ (((toString i : String) : Str)).cps.toList, c < 16 ^ 8 := fun c hc => by
  rcases Nat.lt_or_ge c (16 ^ 8) with h | h
  · exact h
  · exact absurd hc (int_text_free' c ⟨by omega, .inr (by omega)⟩ i)
theorem int_len {n : Nat} {i : Int} (h : Bd n i) (hn : 0 < n) : (((toString i : String) : Str)).length ≤ n + 1 := by
  show (Str.ofString (toString i)).length ≤ n + 1
  rw [PySem.ofString_length]
  refine int_text_length_le hn ?_
  by_cases h0 : i.natAbs = 0
  · rw [h0]
    exact hn
  · rw [Nat.log2_lt h0]
    exact h
theorem app_small {x y : Str} (h : ∀ c ∈ x.cps.toList, c < 16 ^ 8) (h2 : ∀ c ∈ y.cps.toList, c < 16 ^ 8) : ∀ c ∈ (x ++ y).cps.toList, c < 16 ^ 8 := fun c hc => by
  have e : (x ++ y).cps = x.cps ++ y.cps := rfl
  rw [e, Array.toList_append] at hc
  rcases List.mem_append.mp hc with z | z
  · exact h c z
  · exact h2 c z
theorem strN_small (q : Rat) : ∀ c ∈ (strN q).cps.toList, c < 16 ^ 8 := by
  unfold strN
  split
  · exact int_small _
  · exact app_small (app_small (app_small (fun c hc => by cases hc) (int_small _)) (by decide)) (int_small _)
theorem strN_len {n : Nat} {q : Rat} (h : Sz n q) (hn : 0 < n) : (strN q).length ≤ 2 * n + 3 := by
  have a := int_len h.1 hn
  have b := int_len h.2 hn
  unfold strN
  split
  · omega
  · rw [strLen_append, strLen_append, strLen_append]
    have e1 : (Str.ofString "/").length = 1 := by decide
    have e2 : Str.empty.length = 0 := by decide
    omega
section
variable {P : Program} {w : World} {K : PySem.W.Frag} {mg : Str → Option Value} {base : Heap}
def sp_str (K : PySem.W.Frag) : Sp := fun vs H Q _ => ∃ (x : V) (q : Rat), vs = [x] ∧ NumV (CN K) H x q ∧ Sz 1900 q ∧ Q (.str (strN q)) H
theorem sc_N_str : FnScope ["self"] ["self"] (defScope s_N_str) := ⟨rfl, rfl, rfl, by decide +kernel, rfl, by decide +kernel, by decide +kernel⟩
theorem ok_N_str (T : Tx w K mg) : MOk P w K mg base "__str__" 1 (sp_str K) := by
  obtain ⟨fd, F⟩ := T.q_N_str
  refine MOk.of (ps := ["self"]) F (fun _ _ _ _ _ _ us hl => match us, hl with | [_], _ => rfl) (FunD.ok0 F sc_N_str (fun vs H Q E h => ?_) (fun cdv A outer s H vs Q E hr h => ?_))
  · obtain ⟨x, q, rfl, _⟩ := h
    rfl
  · obtain ⟨x, q, rfl, hq, hs, hQ⟩ := h
    refine ⟨_, (pss_cons (ps_if (pt_cmpR op_eq (pe_bottom T (pv 0)) pe_int (nomark _)) (pss_one (ps_ret (pe_joined1 (pe_fmt (pe_top T (pv 0)))))) pss_nil)
      (pss_one (ps_ret (pe_joined (.cons (pe_fmt (pe_top T (pv 0))) (.cons pe_str (.cons (pe_fmt (pe_bottom T (pv 0))) .nil))))))), ?_⟩
    have h1 := int_text_len_1921 (bd_log hs.1 (by decide))
    have h2 := int_text_len_1921 (bd_log hs.2 (by decide))
    unfold strN at hQ
    refine ⟨_, rfl, q, hq, rfl, _, rfl, ?_⟩
    by_cases c : (q.den : Int) = 1
    · rw [if_pos c] at hQ
      rw [decide_eq_true (show V.int (q.den : Int) = V.int 1 by rw [c])]
      exact iteT ⟨_, rfl, q, hq, .inr ⟨_, rfl, bd_log hs.1 (by decide), hQ⟩⟩
    · rw [if_neg c] at hQ
      rw [decide_eq_false (show ¬ V.int (q.den : Int) = V.int 1 from fun z => c (by injection z))]
      refine iteF ⟨_, rfl, q, hq, .inr ⟨_, rfl, bd_log hs.1 (by decide), _, rfl, ?_, _, rfl, ?_, _, rfl, q, hq, .inr ⟨_, rfl, bd_log hs.2 (by decide), _, rfl, ?_, hQ⟩⟩⟩
      all_goals
        simp only [strLen_append, sizeLine_eq]
        have e2 : (Str.ofString "/").length = 1 := by decide
        have e4 : Str.empty.length = 0 := by decide
        omega
end
section
variable {X : Cx} {A : Around} {H : Hp}
theorem run_str (T : Tx X.w X.K X.mg) (hA : Room 1 A) (hf : A.frames = X.A.frames) {E : Value → Shared → Prop} {pins : List (Addr × Obj)} {σ : L2.St} {s : Shared} (I : Inv X pins σ H s) {a : Addr} {q : Rat} (ha : NumA (CN X.K) H a q) (hs : Sz 1900 q) :
    wpAny (model X.prog X.w) A (call (.ref (He.ma X.K (CN X.K) "__str__")) [.ref a]) (fun v s' => (∃ u, v = .str (strN q) u) ∧ Inv X pins σ H s') E s := by
  obtain ⟨fd, ps, b1, F⟩ := ok_N_str (P := X.prog) (base := X.base) T
  have e := I.env0
  have e0 : Env0 X.prog X.w X.K X.mg X.base A X.stack s H := ⟨by rw [hf]; exact e.frames, e.mod, e.bs, e.bsz, e.funs, e.frf, e.hok, e.bare⟩
  have hsp : sp_str X.K [.ref a] H (fun v H' => v = .str (strN q) ∧ H' = H) E0 := ⟨_, q, rfl, ⟨a, rfl, ha⟩, hs, rfl, rfl⟩
  have hl := F.len _ _ _ _ hsp
  have r2 : Vals [V.ref a] [Value.ref a] := .cons rfl .nil
  refine wpAny_call (codeAny_mono (F.run A X.stack s H ⟨[.ref a], []⟩ [.ref a] [.ref a] _ E0 hA e0 (by
    have := b1 s [.ref a] I.kIn (by simpa using hl)
    simpa using this) r2 hsp) fun r s' hq => ?_)
  cases r with
  | error e => exact (show False from hq).elim
  | ok fl =>
    cases fl with
    | ret u =>
      obtain ⟨v, H', I', rv, ev, eH⟩ := I.after hq
      subst ev eH
      obtain ⟨t, rfl⟩ := rv
      exact ⟨⟨t, rfl⟩, I'⟩
    | next => exact False.elim hq
    | brk => exact False.elim hq
    | cont => exact False.elim hq
theorem call_str_any (T : Tx X.w X.K X.mg) (hr : Room 4 X.A) : CallR X (.type "str") (fun xs H Q => (∃ i, xs = [.int i] ∧ i.natAbs.log2 < 1920 ∧ Q (.str (toString i)) H) ∨ ∃ x q, xs = [x] ∧ NumV (CN X.K) H x q ∧ Sz 1900 q ∧ Q (.str (strN q)) H) := by
  intro pins s σ H xs us Q I r h
  rcases h with ⟨i, rfl, hz, q⟩ | ⟨x, q, rfl, ⟨a, rfl, na⟩, hs, hq⟩
  · exact call_str_int pins s σ H _ us Q I r ⟨i, rfl, hz, q⟩
  · rw [Vals.ref1 r]
    obtain ⟨dx, ea⟩ := id na
    obtain ⟨mA, J, _⟩ := ins_get I.hok ea
    obtain ⟨od, J, _⟩ := J.look
    have Mt := T.m_str
    have hr2 : Room 2 X.A.in1.in1 := (hr.in1).in1
    refine PySem.W.kso_call hr2.units0 I.kIn J Mt.at_ Mt.fn (wpAny_mono (run_str (E := X.xe) T (hr2.mono (by decide)) rfl I na hs) (fun v s' z => ?_) fun _ _ y => y)
    obtain ⟨⟨t, rfl⟩, I'⟩ := z
    exact ⟨.str _, H, I', ⟨_, rfl⟩, hq⟩
end
end Fg
set_option Elab.async false
set_option linter.all false
set_option maxRecDepth 100000
set_option maxHeartbeats 1000000
/-! D14: how the law spoils a paper. -/
namespace Fg
open PySem PySem.Spec PyProof.Rows L2
/-- data of such bounds, no list of it the deck's -/
def Okd (C : Addr) (M : Addr → Prop) (n W k : Nat) (H : Hp) (v : V) : Prop := ∃ d, Rep C (M) H v d ∧ Fine n d ∧ D.wt d ≤ W ∧ D.dep d ≤ k
theorem Okd.same {C : Addr} {M : Addr → Prop} {n W k : Nat} {H H' : Hp} {v : V} (h : Okd C M n W k H v) (s : Same H H') : Okd C M n W k H' v := by
  obtain ⟨d, r, x⟩ := h
  exact ⟨d, r.same s, x⟩
theorem Okd.keep {C : Addr} {M : Addr → Prop} {n W k : Nat} {H H' : Hp} {v : V} (h : Okd C M n W k H v) (s : Keep (M) H H') (l : Lsts (M) H) : Okd C M n W k H' v := by
  obtain ⟨d, r, x⟩ := h
  exact ⟨d, r.keep s l, x⟩
theorem kM {a c : Addr} {M : Addr → Prop} {H H' : Hp} (dm : ∀ p, DM a c p → M p) (k : Keep (DM a c) H H') : Keep M H H' := fun b o e n => k b o e fun d => n (dm b d)
theorem lsS {M : Addr → Prop} {H H' : Hp} (l : Lsts M H) (s : Same H H') : Lsts M H' := fun b m => let ⟨xs, e⟩ := l b m; ⟨xs, s _ _ e⟩
theorem lsK {a c : Addr} {B : Int} {M : Addr → Prop} {H H' : Hp} (l : Lsts M H) (k : Keep (DM a c) H H') (d : Deck H' a c B) : Lsts M H' := fun b m => by
  by_cases q : DM a c b
  · exact d.lsts b q
  · obtain ⟨xs, e⟩ := l b m
    exact ⟨xs, k b _ e q⟩
theorem lsF {M : Addr → Prop} {H : Hp} (l : Lsts M H) {p : Addr} (h : H p = none) : ¬ M p := fun m => by
  obtain ⟨xs, e⟩ := l p m
  rw [h] at e
  cases e
theorem pick {Pv : V → Prop} {l : List V} (h : ∀ v ∈ l, Pv v) {z : Int} (h0 : 0 ≤ z) (h1 : z < (l.length : Int)) : ∃ u, atI l z = some u ∧ Pv u := by
  obtain ⟨n, rfl⟩ := Int.eq_ofNat_of_zero_le h0
  have hn : n < l.length := by omega
  exact ⟨l[n], atI_nat (List.getElem?_eq_getElem hn), h _ (List.getElem_mem hn)⟩
theorem Okd.tup {C : Addr} {M : Addr → Prop} {n W k : Nat} {H : Hp} {p : Addr} {vs : List V} {ds : List D} (e : H p = some (.tup vs)) (r : Reps C (M) H vs ds) (f : Fines n ds) (hw : 5 + D.wts ds ≤ W) (hk : D.deps ds + 1 ≤ k) : Okd C M n W k H (.ref p) :=
  ⟨.tup ds, by unfold Rep; exact ⟨p, vs, rfl, e, r⟩, by unfold Fine; exact f, by unfold D.wt; exact hw, by unfold D.dep; exact hk⟩
theorem Okd.lst {C : Addr} {M : Addr → Prop} {n W k : Nat} {H : Hp} {p : Addr} {vs : List V} {ds : List D} (nm : ¬ M p) (e : H p = some (.lst vs)) (r : Reps C (M) H vs ds) (f : Fines n ds) (hw : 5 + D.wts ds ≤ W) (hk : D.deps ds + 1 ≤ k) : Okd C M n W k H (.ref p) :=
  ⟨.lst ds, by unfold Rep; exact ⟨p, vs, rfl, nm, e, r⟩, by unfold Fine; exact f, by unfold D.wt; exact hw, by unfold D.dep; exact hk⟩
theorem Okd.dic {C : Addr} {M : Addr → Prop} {n W k : Nat} {H : Hp} {p : Addr} (e : H p = some (.dK [])) (h : 4000 ≤ W) : Okd C M n W k H (.ref p) := ⟨.dic, by unfold Rep; exact ⟨p, rfl, e⟩, by unfold Fine; trivial, by unfold D.wt; omega, by unfold D.dep; omega⟩
theorem rep_int_of {C : Addr} {M : Addr → Prop} {H : Hp} {i : Int} : Rep C M H (.int i) (.int i) := by unfold Rep; rfl
theorem Okd.non {C : Addr} {M : Addr → Prop} {n W k : Nat} {H : Hp} (h : 4000 ≤ W) : Okd C M n W k H .non := ⟨.non, by unfold Rep; rfl, by unfold Fine; trivial, by unfold D.wt; omega, by unfold D.dep; omega⟩
theorem Okd.bl {C : Addr} {M : Addr → Prop} {n W k : Nat} {H : Hp} {b : Bool} (h : 4000 ≤ W) : Okd C M n W k H (.bl b) := ⟨.bl b, by unfold Rep; rfl, by unfold Fine; trivial, by unfold D.wt; omega, by unfold D.dep; omega⟩
theorem Okd.int {C : Addr} {M : Addr → Prop} {n W k : Nat} {H : Hp} {i : Int} (h : 4000 ≤ W) (hi : Bd n i) : Okd C M n W k H (.int i) := ⟨.int i, by unfold Rep; rfl, by unfold Fine; exact hi, by unfold D.wt; omega, by unfold D.dep; omega⟩
theorem Okd.str {C : Addr} {M : Addr → Prop} {n W k : Nat} {H : Hp} {x : Str} (h : 10 * x.length + 2 ≤ W) (hi : ∀ c ∈ x.cps.toList, c < 16 ^ 8) : Okd C M n W k H (.str x) := ⟨.str x, by unfold Rep; rfl, by unfold Fine; exact hi, by unfold D.wt; exact h, by unfold D.dep; omega⟩
theorem Okd.num {C : Addr} {M : Addr → Prop} {n W k : Nat} {H : Hp} {v : V} {q : Rat} (h : 4000 ≤ W) (hv : NumV C H v q) (hq : Sz n q) : Okd C M n W k H v := ⟨.num q, by unfold Rep; exact hv, by unfold Fine; exact hq, by unfold D.wt; omega, by unfold D.dep; omega⟩
theorem wts_cons (x : D) (r : List D) : D.wts (x :: r) = D.wt x + 2 + D.wts r := by rw [D.wts]
theorem deps_cons (x : D) (r : List D) : D.deps (x :: r) = max (D.dep x) (D.deps r) := by rw [D.deps]
theorem wts_append : ∀ (xs ys : List D), D.wts (xs ++ ys) = D.wts xs + D.wts ys
  | [], ys => by simp [D.wts]
  | x :: r, ys => by
    rw [List.cons_append, wts_cons, wts_cons, wts_append r ys]
    omega
theorem deps_append : ∀ (xs ys : List D), D.deps (xs ++ ys) = max (D.deps xs) (D.deps ys)
  | [], ys => by simp [D.deps]
  | x :: r, ys => by
    rw [List.cons_append, deps_cons, deps_cons, deps_append r ys]
    omega
theorem fines_append {n : Nat} : ∀ {xs ys : List D}, Fines n xs → Fines n ys → Fines n (xs ++ ys)
  | [], ys, _, h => h
  | x :: r, ys, h, h2 => by
    rw [List.cons_append]
    unfold Fines at h ⊢
    exact ⟨h.1, fines_append h.2 h2⟩
theorem wts_take (n : Nat) : ∀ xs : List D, D.wts (xs.take n) + D.wts (xs.drop n) = D.wts xs := fun xs => by
  rw [← wts_append, List.take_append_drop]
theorem deps_take (n : Nat) (xs : List D) : D.deps (xs.take n) ≤ D.deps xs ∧ D.deps (xs.drop n) ≤ D.deps xs := by
  have h := deps_append (xs.take n) (xs.drop n)
  rw [List.take_append_drop] at h
  omega
theorem fines_split {n : Nat} : ∀ {xs ys : List D}, Fines n (xs ++ ys) → Fines n xs ∧ Fines n ys
  | [], ys, h => ⟨by unfold Fines; trivial, h⟩
  | x :: r, ys, h => by
    rw [List.cons_append] at h
    unfold Fines at h
    have := fines_split h.2
    exact ⟨by unfold Fines; exact ⟨h.1, this.1⟩, this.2⟩
theorem fines_take {n : Nat} (m : Nat) {xs : List D} (h : Fines n xs) : Fines n (xs.take m) ∧ Fines n (xs.drop m) := by
  rw [← List.take_append_drop m xs] at h
  have := fines_split h
  exact this
theorem wts_rev : ∀ xs : List D, D.wts xs.reverse = D.wts xs
  | [] => rfl
  | x :: r => by
    rw [List.reverse_cons, wts_append, wts_rev r]
    simp only [D.wts]
    omega
theorem deps_rev : ∀ xs : List D, D.deps xs.reverse = D.deps xs
  | [] => rfl
  | x :: r => by
    rw [List.reverse_cons, deps_append, deps_rev r]
    simp only [D.deps]
    omega
theorem fines_rev {n : Nat} : ∀ {xs : List D}, Fines n xs → Fines n xs.reverse
  | [], h => h
  | x :: r, h => by
    rw [List.reverse_cons]
    unfold Fines at h
    exact fines_append (fines_rev h.2) (by unfold Fines; exact ⟨h.1, by unfold Fines; trivial⟩)
theorem len_wts : ∀ xs : List D, xs.length ≤ D.wts xs
  | [] => Nat.zero_le _
  | x :: r => by
    have := len_wts r
    rw [List.length_cons]
    unfold D.wts
    omega
mutual
theorem Fine.more {n m : Nat} (h : n ≤ m) : ∀ {d : D}, Fine n d → Fine m d
  | .non, _ => by unfold Fine; trivial
  | .bl _, _ => by unfold Fine; trivial
  | .dic, _ => by unfold Fine; trivial
  | .int i, x => by unfold Fine at *; exact x.mono h
  | .num q, x => by unfold Fine at *; exact x.mono h
  | .str s, x => by unfold Fine at *; exact x
  | .tup ds, x => by unfold Fine at *; exact Fines.more h x
  | .lst ds, x => by unfold Fine at *; exact Fines.more h x
theorem Fines.more {n m : Nat} (h : n ≤ m) : ∀ {ds : List D}, Fines n ds → Fines m ds
  | [], _ => by unfold Fines; trivial
  | d :: r, x => by
    unfold Fines at *
    exact ⟨Fine.more h x.1, Fines.more h x.2⟩
end
theorem isInt_of {d : D} (h : (d.isInt || d.isBl) = true) (h2 : d.isBl = false) : ∃ i, d = .int i := by
  cases d
  case int i => exact ⟨i, rfl⟩
  all_goals first | (rw [show _ = true from rfl] at h2; cases h2) | (simp [D.isInt, D.isBl] at h h2)
/-! ### tuples of the heap -/
def cutD (xs : List D) (lo hi : Option Int) : List D := (xs.drop (HT.sIx xs.length 0 lo)).take (HT.sIx xs.length xs.length hi - HT.sIx xs.length 0 lo)
theorem Reps.cut {C : Addr} {M : Addr → Prop} {H : Hp} {vs : List V} {ds : List D} (r : Reps C M H vs ds) (lo hi : Option Int) : Reps C M H (cutV vs lo hi) (cutD ds lo hi) := by
  unfold cutV cutD
  rw [r.length]
  exact Reps.take _ (Reps.drop _ r)
theorem wts_cut (xs : List D) (lo hi : Option Int) : D.wts (cutD xs lo hi) ≤ D.wts xs := by
  unfold cutD
  have h1 := wts_take (HT.sIx xs.length xs.length hi - HT.sIx xs.length 0 lo) (xs.drop (HT.sIx xs.length 0 lo))
  have h2 := wts_take (HT.sIx xs.length 0 lo) xs
  omega
theorem deps_cut (xs : List D) (lo hi : Option Int) : D.deps (cutD xs lo hi) ≤ D.deps xs := by
  unfold cutD
  have h1 := (deps_take (HT.sIx xs.length xs.length hi - HT.sIx xs.length 0 lo) (xs.drop (HT.sIx xs.length 0 lo))).1
  have h2 := (deps_take (HT.sIx xs.length 0 lo) xs).2
  omega
theorem fines_cut {n : Nat} {xs : List D} (h : Fines n xs) (lo hi : Option Int) : Fines n (cutD xs lo hi) := by
  unfold cutD
  exact (fines_take _ (fines_take _ h).2).1
theorem cut_len (xs : List V) (lo hi : Option Int) : (cutV xs lo hi).length ≤ xs.length := cutV_length xs lo hi
def HasT (xs : List V) (H : Hp) (Q : VK) : Prop := ∀ p H', Same H H' → H' p = some (.tup xs) → Q (.ref p) H'
theorem HasT.put {xs : List V} {H : Hp} {Q : VK} (h : HasT xs H Q) (p : Addr) (n : H p = none) : Q (.ref p) (upd H p (.tup xs)) := h p _ (Same.upd n) upd_same
theorem HasT.old {xs : List V} {H : Hp} {Q : VK} (h : HasT xs H Q) {p : Addr} (e : H p = some (.tup xs)) : Q (.ref p) H := h p _ (Same.refl _) e
section
variable {X : Cx}
/-- t + u -/
def rCatB : R2 := fun x y H Q => ∃ a b xs ys, x = .ref a ∧ y = .ref b ∧ H a = some (.tup xs) ∧ H b = some (.tup ys) ∧ xs.length + ys.length ≤ sizeLine ∧ HasT (xs ++ ys) H Q
theorem op_catB : OpR X (binaryOp .Add) rCatB := by
  intro pins s σ H x y v u Q I rx ry h
  obtain ⟨a, b, xs, ys, rfl, rfl, ha, hb, hz, q⟩ := h
  refine op_catA pins s σ H _ _ v u Q I rx ry ⟨a, b, xs, ys, rfl, rfl, SqT.of ha, SqT.of hb, hz, fun e => ?_, fun _ e => ?_, fun _ _ p n => q.put p n⟩
  · subst e
    exact q.old hb
  · subst e
    exact q.old (by rw [List.append_nil]; exact ha)
def rSlB : V → Option Int → Option Int → Hp → VK → Prop := fun x lo hi H Q => ∃ a xs, x = .ref a ∧ H a = some (.tup xs) ∧ HasT (cutV xs lo hi) H Q
theorem sl_tupB : SlR X rSlB := by
  intro pins s σ H x v vl vu lo hi sl Q I rx hs pl pu h
  obtain ⟨a, xs, rfl, ha, q⟩ := h
  refine sl_tupA pins s σ H _ v vl vu lo hi sl Q I rx hs pl pu ⟨a, xs, rfl, SqT.of ha, fun e => ?_, fun _ p n => q.put p n⟩
  refine q.old ?_
  have : cutV xs lo hi = xs := by
    unfold cutV
    rw [e.1, e.2]
    simp
  rw [this]
  exact ha
def tRevB (te : TE) : TE := fun σ H Q => te σ H fun x H1 => ∃ a xs, x = .ref a ∧ H1 a = some (.tup xs) ∧ HasT xs.reverse H1 Q
theorem pe_revB {e : Expr} {te : TE} {k : Nat} {p1 p2 p3 pos : Pos} (he : PE X e te) : PE X (.Subscript e (.Slice none none (some (.UnaryOp .USub (.Constant (.int 1) k p1) p2)) p3) pos) (tRevB te) :=
  ⟨fun pins s σ H Q I h => (FgT.pe_revT (pe_mo he)).run pins s σ H Q I ⟨_, h, fun v H' ⟨a, xs, ev, ha, q⟩ => ⟨a, xs, ev, SqT.of ha, fun p n => q.put p n⟩⟩⟩
end
theorem bd_small {z : Int} (h : 0 ≤ z) (h2 : z ≤ 2000000) : Bd 100 z := by
  unfold Bd
  have : z.natAbs ≤ 2000000 := by omega
  exact Nat.lt_of_le_of_lt this (by decide)
section
variable {P : Program} {w : World} {K : PySem.W.Frag} {mg : Str → Option Value} {base : Heap}
/-! ### _law_otherwise -/
def sp_otherwise (K : PySem.W.Frag) : Sp := fun vs H Q _ => ∃ (a c : Addr) (M : Addr → Prop) (B : Int) (v o : V) (d e : D) (n W Wo k ko : Nat), vs = [.ref a, v, o] ∧ Deck H a c B ∧ (∀ p, DM a c p → M p) ∧ Lsts M H ∧ B ≤ 2 ^ 58 ∧ Rep (CN K) M H v d ∧ Rep (CN K) M H o e ∧
  140 ≤ n ∧ n ≤ 1000 ∧ Fine n d ∧ Fine n e ∧ D.wt d ≤ W ∧ D.wt e ≤ Wo ∧ W ≤ 1000000 ∧ D.dep d ≤ k ∧ D.dep e ≤ ko ∧
  ∀ u H', Keep (DM a c) H H' → Deck H' a c (B + 3) → Okd (CN K) M (n + 4) (3 * W + Wo + 30000) (k + ko + 1) H' u → Q u H'
theorem sc_law_otherwise : FnScope ["_law_deck_here", "_law_thing", "_law_other", "_law_odd", "_law_kind", "_law_near", "_law_at", "_law_some"] ["_law_deck_here", "_law_thing", "_law_other"] (defScope s_law_otherwise) := ⟨rfl, rfl, rfl, by decide +kernel, rfl, by decide +kernel, by decide +kernel⟩
theorem ok_law_otherwise (T : Tx w K mg) : DefOk P w K mg base "_law_otherwise" 5 [] (sp_otherwise K) := by
  obtain ⟨fd, F⟩ := T.q_law_otherwise
  refine DefOk.of (ps := ["_law_deck_here", "_law_thing", "_law_other"]) F T.g_law_otherwise (fun _ _ _ _ _ _ us hl => match us, hl with | [_, _, _], _ => rfl) (FunD.ok0 F sc_law_otherwise (fun vs H Q E h => ?_) (fun cdv A outer s H vs Q E hr h => ?_))
  · obtain ⟨a, c, M, B, v, o, d, e, n, W, Wo, k, ko, rfl, _⟩ := h
    rfl
  · obtain ⟨a, c, M, B, v, o, d, e, n, W, Wo, k, ko, rfl, hdk, dm, lm, hB, hv, ho, n0, n1, fd1, fe, wd, we, hW, kd, ke, hQ⟩ := h
    refine ⟨_, (pss_cons (ps_set (i := 3) sc_law_otherwise.nd rfl (Or.inl rfl) (pe_ix ix_list (pe_lst (pa_cons pe_non (pa_cons pe_bl (pa_cons pe_str (pa_cons pe_str (pa_cons (pe_tup pa_nil) (pa_cons (pe_lst pa_nil) (pa_cons pe_dnewK (pa_cons pe_int (pa_cons pe_int (pa_cons (pe_un un_neg pe_int) (pa_cons (pe_op op_pow pe_int pe_int) (pa_cons (pe_tup (pa_cons pe_int (pa_cons pe_int pa_nil))) (pa_cons (pv 2) pa_nil)))))))))))))) (pe_d (ok_law_draw T) (hr.mono (by decide)) (pa_cons (pv 0) (pa_cons pe_int pa_nil))) (fun _ _ => rfl)))
      (pss_cons (ps_set (i := 4) sc_law_otherwise.nd rfl (Or.inl rfl) (pe_d (ok_law_draw T) (hr.mono (by decide)) (pa_cons (pv 0) (pa_cons pe_int pa_nil))))
      (pss_cons (ps_moS (ps_if (PW.pt (pw_and (pt_val (pe_callB call_isi (by rfl) T.n_isinstance (by decide +kernel) (pa_cons (pv 1) (pa_cons (pe_bltn (v := .ty "int") (by rfl) (T.n_int) (by decide +kernel) rfl) pa_nil)))) (pw_and1 (pt_not (pt_val (pe_callB call_isi (by rfl) T.n_isinstance (by decide +kernel) (pa_cons (pv 1) (pa_cons (pe_bltn (v := .ty "bool") (by rfl) (T.n_bool) (by decide +kernel) rfl) pa_nil)))))))) (pss_one (ps_ret (pe_ix ix_list (pe_lst (pa_cons (pe_op op_add (pv 1) pe_int) (pa_cons (pe_op op_sub (pv 1) pe_int) (pa_cons (pe_op op_sub pe_int (pv 1)) (pa_cons (pe_cmpR op_eq (pv 1) pe_int (nomark _)) (pa_cons (pe_callTy (call_str_any T (hr.mono (by decide))) (by rfl) T.n_str (by decide +kernel) (pa_cons (pv 1) pa_nil)) (pa_cons (pe_op op_add (pv 1) pe_int) (pa_cons (pe_op op_mulW pe_int (pv 1)) (pa_cons (pv 3) pa_nil))))))))) (pv 4) (fun _ _ => rfl)))) pss_nil))
      (pss_cons (ps_if (pt_val (pe_callB call_isi (by rfl) T.n_isinstance (by decide +kernel) (pa_cons (pv 1) (pa_cons (pe_num T) pa_nil)))) (pss_cons (ps_set (i := 5) sc_law_otherwise.nd rfl (Or.inl rfl) (pe_lst (pa_cons (pe_N2 T (hr.mono (by decide)) (pa_cons (pe_op op_add (pe_top T (pv 1)) pe_int) (pa_cons (pe_bottom T (pv 1)) pa_nil))) (pa_cons (pe_N2 T (hr.mono (by decide)) (pa_cons (pe_op op_sub (pe_top T (pv 1)) pe_int) (pa_cons (pe_bottom T (pv 1)) pa_nil))) (pa_cons (pe_N1 T (hr.mono (by decide)) (pa_cons pe_int pa_nil)) (pa_cons (pe_N1 T (hr.mono (by decide)) (pa_cons pe_int pa_nil)) pa_nil))))))
      (pss_one (ps_ret (pe_ix ix_list (pe_op op_cat (pv 5) (pe_lst (pa_cons (pe_N2 T (hr.mono (by decide)) (pa_cons (pe_top T (pv 1)) (pa_cons (pe_op op_add (pe_bottom T (pv 1)) pe_int) pa_nil))) (pa_cons (pe_top T (pv 1)) (pa_cons (pe_callTy (call_str_any T (hr.mono (by decide))) (by rfl) T.n_str (by decide +kernel) (pa_cons (pv 1) pa_nil)) (pa_cons (pv 3) pa_nil)))))) (pv 4) (fun _ _ => rfl))))) pss_nil)
      (pss_cons (ps_if (pt_val (pe_callB call_isi (by rfl) T.n_isinstance (by decide +kernel) (pa_cons (pv 1) (pa_cons (pe_bltn (v := .ty "tuple") (by rfl) (T.n_tuple) (by decide +kernel) rfl) pa_nil)))) (pss_cons (ps_set (i := 6) sc_law_otherwise.nd rfl (Or.inl rfl) (pe_d (ok_law_draw T) (hr.mono (by decide)) (pa_cons (pv 0) (pa_cons (pe_op op_add (pe_callB call_len_seq (by rfl) T.n_len (by decide +kernel) (pa_cons (pv 1) pa_nil)) pe_int) pa_nil))))
      (pss_cons (ps_set (i := 7) sc_law_otherwise.nd rfl (Or.inl rfl) (pe_lst (pa_cons (pe_op op_catB (pe_slice sl_tupB (pv 1) po_none (po_some (pv 6))) (pe_slice sl_tupB (pv 1) (po_some (pe_op op_add (pv 6) pe_int)) po_none)) (pa_cons (pe_op op_catB (pe_op op_catB (pe_slice sl_tupB (pv 1) po_none (po_some (pv 6))) (pe_slice sl_tupB (pv 1) (po_some (pv 6)) (po_some (pe_op op_add (pv 6) pe_int)))) (pe_slice sl_tupB (pv 1) (po_some (pv 6)) po_none)) (pa_cons (pe_revB (pv 1)) (pa_cons (pe_callTy call_list_of (by rfl) T.n_list (by decide +kernel) (pa_cons (pv 1) pa_nil)) pa_nil))))))
      (pss_cons (ps_set (i := 7) sc_law_otherwise.nd rfl (Or.inl rfl) (pe_op op_cat (pv 7) (pe_lst (pa_cons (pe_op op_catB (pv 1) (pe_tup (pa_cons pe_int pa_nil))) (pa_cons (pe_tup (pa_cons (pv 1) pa_nil)) (pa_cons (pe_op op_catB (pe_op op_catB (pe_slice sl_tupB (pv 1) po_none (po_some (pv 6))) (pe_revB (pe_slice sl_tupB (pv 1) (po_some (pv 6)) (po_some (pe_op op_add (pv 6) pe_int))))) (pe_slice sl_tupB (pv 1) (po_some (pe_op op_add (pv 6) pe_int)) po_none)) (pa_cons (pv 3) pa_nil)))))))
      (pss_one (ps_ret (pe_ix ix_list (pv 7) (pv 4) (fun _ _ => rfl))))))) pss_nil)
      (pss_one (ps_ret (pv 3)))))))), ?_⟩
    refine ⟨by show 0 ≤ sizeLine; decide, fun e1 n1' => ⟨by show 0 ≤ sizeLine; decide, fun e2 n2 => fun e3 n3 => ⟨1, rfl, _, _, rfl, rfl, ⟨by decide, by decide, by decide⟩, by show 2 ≤ sizeLine; decide, fun e4 n4 => ⟨_, rfl, by show 13 ≤ sizeLine; decide, fun L nL => ?_⟩⟩⟩⟩
    have u1 := Same.upd (o := .tup []) n1'
    have u2 := Same.upd (o := .lst []) n2
    have u3 := Same.upd (o := .dK []) n3
    have u4 := Same.upd (o := .tup [.int 0, .int 1]) n4
    have uL := Same.upd (o := .lst [.non, .bl true, .str (Str.ofString ""), .str (Str.ofString "1"), .ref e1, .ref e2, .ref e3, .int 0, .int 1, .int (-1), .int (10 ^ (39 : Int).toNat), .ref e4, o]) nL
    have f4 := uL
    have f3 := u4.trans f4
    have f2 := u3.trans f3
    have f1 := u2.trans f2
    have f0 := u1.trans f1
    have g1 := f1 e1 _ upd_same
    have g2 := f2 e2 _ upd_same
    have g3 := f3 e3 _ upd_same
    have g4 := f4 e4 _ upd_same
    have ne2 : ¬ M e2 := lsF (lsS lm u1) n2
    have neL : ¬ DM a c L := (hdk.same (((u1.trans u2).trans u3).trans u4)).fresh nL
    have hdL := hdk.same f0
    have lW : 4000 ≤ 3 * W + Wo + 30000 := by omega
    have okO : Okd (CN K) M (n + 4) (3 * W + Wo + 30000) (k + ko + 1) _ o := Okd.same ⟨e, ho, fe.more (by omega), by omega, by omega⟩ f0
    have all13 : ∀ x ∈ [V.non, V.bl true, V.str (Str.ofString ""), V.str (Str.ofString "1"), V.ref e1, V.ref e2, V.ref e3, V.int 0, V.int 1, V.int (-1), V.int (10 ^ (39 : Int).toNat), V.ref e4, o], Okd (CN K) M (n + 4) (3 * W + Wo + 30000) (k + ko + 1) _ x := fun x hx => by
      simp only [List.mem_cons, List.not_mem_nil, or_false] at hx
      rcases hx with rfl | rfl | rfl | rfl | rfl | rfl | rfl | rfl | rfl | rfl | rfl | rfl | rfl
      · exact Okd.non lW
      · exact Okd.bl lW
      · exact Okd.str (by have : (Str.ofString "").length = 0 := by decide
                          omega) (by decide)
      · exact Okd.str (by have : (Str.ofString "1").length = 1 := by decide
                          omega) (by decide)
      · exact Okd.tup g1 reps_nil (by unfold Fines; trivial) (by unfold D.wts; omega) (by unfold D.deps; omega)
      · exact Okd.lst ne2 g2 reps_nil (by unfold Fines; trivial) (by unfold D.wts; omega) (by unfold D.deps; omega)
      · exact Okd.dic g3 lW
      · exact Okd.int lW (by unfold Bd; exact Nat.pow_pos (by decide))
      · exact Okd.int lW (Bd.mono (show Bd 2 1 by unfold Bd; decide) (by omega))
      · exact Okd.int lW (Bd.mono (show Bd 2 (-1) by unfold Bd; decide) (by omega))
      · exact Okd.int lW (Bd.mono (show Bd 140 (10 ^ (39 : Int).toNat) by unfold Bd; decide) (by omega))
      · exact Okd.tup (ds := [.int 0, .int 1]) g4 (reps_cons.mpr ⟨rep_int_of, reps_cons.mpr ⟨rep_int_of, reps_nil⟩⟩) (by simp only [Fines, Fine]; exact ⟨Nat.pow_pos (by decide), Bd.mono (show Bd 2 1 by unfold Bd; decide) (by omega), trivial⟩) (by simp only [D.wts, D.wt]; omega) (by simp only [D.deps, D.dep]; omega)
      · exact okO
    refine ⟨_, rfl, a, c, B, 13, rfl, hdL, by omega, by decide, by unfold Bd; decide, fun z1 H1 k1 d1 p1 q1 => ?_⟩
    obtain ⟨od, hod, okd⟩ := pick all13 p1 q1
    have gL := k1 L _ upd_same neL
    refine ⟨L, _, _, _, rfl, rfl, SqL.of gL, hod, ?_⟩
    have lmL := lsS lm f0
    have lm1 := lsK lmL k1 d1
    have okd1 := okd.keep (kM dm k1) lmL
    refine ⟨_, rfl, a, c, B + 1, 8, rfl, d1, by omega, by decide, by unfold Bd; decide, fun z2 H2 k2 d2 p2 q2 => ?_⟩
    have lm2 := lsK lm1 k2 d2
    have okd2 := okd1.keep (kM dm k2) lm1
    have kA := ((Keep.ofSame (M := DM a c) f0).trans k1).trans k2
    have hv2 := hv.keep (kM dm kA) lm
    have d2' : Deck H2 a c (B + 2) := d2.more (by omega)
    refine ⟨fun σ' H' => σ' = [some (.ref a), some v, some o, some od, some (.int z2), none, none, none] ∧ H' = H2 ∧ d.isInt = false, ?_, ?_⟩
    · refine ⟨_, rfl, _, _, _, _, _, rfl, .ty _, T.ty.of hv2, T.ty.kInt d, _, rfl, ?_⟩
      cases ci : d.isInt || d.isBl with
      | false =>
        refine iteF ⟨rfl, rfl, ?_⟩
        cases d <;> first | rfl | cases ci
      | true =>
        refine iteT ⟨_, rfl, _, _, _, _, _, rfl, .ty _, T.ty.of hv2, T.ty.kBool d, _, rfl, ?_⟩
        cases cb : d.isBl with
        | true =>
          refine iteF ⟨rfl, rfl, ?_⟩
          cases d <;> first | rfl | cases cb
        | false =>
          obtain ⟨i, rfl⟩ : ∃ i, d = .int i := isInt_of ci cb
          obtain rfl := rep_int hv2
          have bi : Bd n i := by unfold Fine at fd1; exact fd1
          have b1 : Bd n 1 := Bd.mono (show Bd 2 1 by unfold Bd; decide) (by omega)
          have b2 : Bd n 2 := Bd.mono (show Bd 2 2 by unfold Bd; decide) (by omega)
          refine iteT ?_
          refine ⟨_, rfl, _, _, rfl, rfl, _, rfl, _, _, rfl, rfl, _, rfl, _, _, rfl, rfl, _, rfl, rfl, _, rfl, .inl ⟨i, rfl, bd_log bi (by omega), _, rfl, _, _, rfl, rfl, _, rfl, _, _, rfl, rfl, wide_mul (show Bd 4 10 by unfold Bd; decide) bi (by decide) (by omega) (by omega), _, rfl, by show 8 ≤ sizeLine; decide, fun L2 nL2 => ?_⟩⟩
          have uL2 := Same.upd (o := .lst [.int (i + 1), .int (i - 1), .int (0 - i), .bl (decide (V.int i = V.int 1)), .str ((toString i : String) : Str), .int (i + 2), .int (10 * i), od]) nL2
          have all8 : ∀ x ∈ [V.int (i + 1), V.int (i - 1), V.int (0 - i), V.bl (decide (V.int i = V.int 1)), V.str ((toString i : String) : Str), V.int (i + 2), V.int (10 * i), od], Okd (CN K) M (n + 4) (3 * W + Wo + 30000) (k + ko + 1) (upd H2 L2 (.lst [.int (i + 1), .int (i - 1), .int (0 - i), .bl (decide (V.int i = V.int 1)), .str ((toString i : String) : Str), .int (i + 2), .int (10 * i), od])) x := fun x hx => by
            simp only [List.mem_cons, List.not_mem_nil, or_false] at hx
            rcases hx with rfl | rfl | rfl | rfl | rfl | rfl | rfl | rfl
            · exact Okd.int lW ((bi.add b1).mono (by omega))
            · exact Okd.int lW ((bi.sub b1).mono (by omega))
            · exact Okd.int lW (((show Bd n 0 by unfold Bd; exact Nat.pow_pos (by decide)).sub bi).mono (by omega))
            · exact Okd.bl lW
            · exact Okd.str (by have := int_len bi (by omega)
                                omega) (int_small i)
            · exact Okd.int lW ((bi.add b2).mono (by omega))
            · exact Okd.int lW (((show Bd 4 10 by unfold Bd; decide).mul bi).mono (by omega))
            · exact okd2.same uL2
          obtain ⟨u, hu, oku⟩ := pick all8 p2 q2
          refine ⟨_, rfl, L2, _, _, _, rfl, rfl, SqL.of upd_same, hu, ?_⟩
          exact hQ u _ (kA.trans (Keep.ofSame uL2)) ((d2'.same uL2).more (by omega)) oku
    · rintro σ' H' ⟨rfl, rfl, hni⟩
      refine ⟨_, rfl, _, _, _, _, _, rfl, .own _, T.ty.of hv2, T.ty.kNum d, _, rfl, ?_⟩
      cases cn : d.isNum with
      | true =>
        obtain ⟨q, rfl⟩ : ∃ q, d = .num q := by cases d <;> first | exact ⟨_, rfl⟩ | cases cn
        have hn : NumV (CN K) H' v q := by unfold Rep at hv2; exact hv2
        have sq : Sz n q := by unfold Fine at fd1; exact fd1
        have b1 : Bd n 1 := Bd.mono (show Bd 2 1 by unfold Bd; decide) (by omega)
        have hq0 := dpos q
        refine iteT ?_
        have lq : q.num.natAbs.log2 < 1920 := bd_log sq.1 (by omega)
        have bt := sq.1
        have bd := sq.2
        refine ⟨_, rfl, q, hn, _, _, rfl, rfl, _, rfl, q, hn, _, _, rfl, hq0, bd.mono (by omega), fun v1 G1 s1 n1 => ⟨_, rfl, q, hn.same s1, _, _, rfl, rfl, _, rfl, q, hn.same s1, _, _, rfl, hq0, bd.mono (by omega), fun v2 G2 s2 n2 => ⟨_, rfl, fun v3 G3 s3 n3 => ⟨_, rfl, fun v4 G4 s4 n4 => ⟨by show 4 ≤ sizeLine; decide, fun L1 nL1 => ?_⟩⟩⟩⟩⟩
        have sL1 := Same.upd (o := .lst [v1, v2, v3, v4]) nL1
        have t4 := s4.trans sL1
        have t3 := s3.trans t4
        have t2 := s2.trans t3
        have t1 := s1.trans t2
        have hn1 := hn.same t1
        refine ⟨_, rfl, _, rfl, q, hn1, _, rfl, q, hn1, _, _, rfl, rfl, _, _, rfl, (by show (0 : Int) < (q.den : Int) + 1; omega), (bd.add b1).mono (by omega), fun v5 G5 s5 n5 => ⟨_, rfl, q, hn1.same s5, _, rfl, .inr ⟨_, q, rfl, hn1.same s5, sq.mono (by omega), _, rfl, by show 4 ≤ sizeLine; decide, fun L2 nL2 => ?_⟩⟩⟩
        have sL2 := Same.upd (o := .lst [v5, .int q.num, .str (strN q), od]) nL2
        have t5 := s5.trans sL2
        have gL1 := t5 L1 _ upd_same
        refine ⟨L1, L2, _, _, rfl, rfl, gL1, upd_same, by show 8 ≤ sizeLine; decide, fun L3 nL3 => ?_⟩
        have sL3 := Same.upd (o := .lst ([v1, v2, v3, v4] ++ [v5, .int q.num, .str (strN q), od])) nL3
        have tA := (t1.trans t5).trans sL3
        have all8 : ∀ x ∈ [v1, v2, v3, v4] ++ [v5, .int q.num, .str (strN q), od], Okd (CN K) M (n + 4) (3 * W + Wo + 30000) (k + ko + 1) _ x := fun x hx => by
          simp only [List.cons_append, List.nil_append, List.mem_cons, List.not_mem_nil, or_false] at hx
          rcases hx with rfl | rfl | rfl | rfl | rfl | rfl | rfl | rfl
          · exact Okd.same (Okd.num lW n1 (Sz.mk hq0 ((bt.add b1).mono (by omega)) (bd.mono (by omega)))) ((t2.trans t5).trans sL3)
          · exact Okd.same (Okd.num lW n2 (Sz.mk hq0 ((bt.sub b1).mono (by omega)) (bd.mono (by omega)))) ((t3.trans t5).trans sL3)
          · exact Okd.same (Okd.num lW n3 (Sz.int (b1.mono (by omega)) (by omega))) ((t4.trans t5).trans sL3)
          · exact Okd.same (Okd.num lW n4 (Sz.int (show Bd (n + 4) 0 by unfold Bd; exact Nat.pow_pos (by decide)) (by omega))) ((sL1.trans t5).trans sL3)
          · exact Okd.same (Okd.num lW n5 (Sz.mk (by show (0 : Int) < (q.den : Int) + 1; omega) (bt.mono (by omega)) ((bd.add b1).mono (by omega)))) (sL2.trans sL3)
          · exact Okd.int lW (bt.mono (by omega))
          · exact Okd.str (by have := strN_len sq (by omega)
                              omega) (strN_small q)
          · exact okd2.same tA
        obtain ⟨u, hu, oku⟩ := pick all8 p2 q2
        refine ⟨_, rfl, L3, _, _, _, rfl, rfl, SqL.of upd_same, hu, ?_⟩
        exact hQ u _ (kA.trans (Keep.ofSame tA)) ((d2'.same tA).more (by omega)) oku
      | false =>
        refine iteF ?_
        refine ⟨_, rfl, _, _, _, _, _, rfl, .ty _, T.ty.of hv2, T.ty.kTup d, _, rfl, ?_⟩
        cases ct : d.isTup with
        | false => 
          refine iteF ?_
          exact ⟨_, rfl, hQ od _ kA (d2'.more (by omega)) okd2⟩
        | true =>
          obtain ⟨ds, rfl⟩ : ∃ ds, d = .tup ds := by cases d <;> first | exact ⟨_, rfl⟩ | cases ct
          obtain ⟨p, vs, rfl, gp, rp⟩ : ∃ p vs, v = .ref p ∧ H' p = some (.tup vs) ∧ Reps (CN K) M H' vs ds := by unfold Rep at hv2; exact hv2
          have fds : Fines n ds := by unfold Fine at fd1; exact fd1
          have wds : 5 + D.wts ds ≤ W := by unfold D.wt at wd; exact wd
          have kds : D.deps ds + 1 ≤ k := by unfold D.dep at kd; exact kd
          have lds := len_wts ds
          have lvs := rp.length
          refine iteT ?_
          refine ⟨_, rfl, _, rfl, p, vs, rfl, .inr (SqT.of gp), _, _, rfl, rfl, a, c, B + 2, _, rfl, d2', by omega, by omega, ?_, fun z3 H3 k3 d3 p3 q3 => ?_⟩
          · exact bd_small (by omega) (by omega)
          have gp3 := k3.get d2'.lsts gp (fun xs z => by cases z)
          have rp3 := Reps.keep (kM dm k3) lm2 rp
          have okd3 := okd2.keep (kM dm k3) lm2
          have kB := kA.trans k3
          have sz : vs.length ≤ 1000000 := by omega
          have cl : ∀ lo hi, (cutV vs lo hi).length ≤ 1000000 := fun lo hi => Nat.le_trans (cut_len vs lo hi) sz
          refine ⟨_, rfl, _, rfl, z3, rfl, p, vs, rfl, gp3, fun a1 G1 s1 g1 => ⟨_, rfl, _, rfl, _, _, rfl, rfl, _, rfl, p, vs, rfl, s1 _ _ gp3, fun a2 G2 s2 g2 => ⟨a1, a2, _, _, rfl, rfl, s2 _ _ g1, g2, ?_, fun a3 G3 s3 g3 => ?_⟩⟩⟩
          · have := cl none (some z3)
            have := cl (some (z3 + 1)) none
            unfold sizeLine
            omega
          have e3 := (s1.trans s2).trans s3
          have ok3 : Okd (CN K) M (n + 4) (3 * W + Wo + 30000) (k + ko + 1) G3 (.ref a3) := Okd.tup g3 (Reps.append ((rp3.cut _ _).same e3) ((rp3.cut _ _).same e3)) ((fines_append (fines_cut fds _ _) (fines_cut fds _ _)).more (by omega)) (by
            have := wts_cut ds none (some z3)
            have := wts_cut ds (some (z3 + 1)) none
            rw [wts_append]
            omega) (by
            have := deps_cut ds none (some z3)
            have := deps_cut ds (some (z3 + 1)) none
            rw [deps_append]
            omega)
          have gp4 := e3 _ _ gp3
          refine ⟨_, rfl, _, rfl, _, rfl, p, vs, rfl, gp4, fun a4 G4 s4 g4 => ⟨_, rfl, _, rfl, _, rfl, _, rfl, _, _, rfl, rfl, _, rfl, p, vs, rfl, s4 _ _ gp4, fun a5 G5 s5 g5 => ⟨a4, a5, _, _, rfl, rfl, s5 _ _ g4, g5, ?_, fun a6 G6 s6 g6 => ⟨_, rfl, _, rfl, _, rfl, p, vs, rfl, ((s4.trans s5).trans s6) _ _ gp4, fun a7 G7 s7 g7 => ⟨a6, a7, _, _, rfl, rfl, s7 _ _ g6, g7, ?_, fun a8 G8 s8 g8 => ?_⟩⟩⟩⟩⟩
          · have := cl none (some z3)
            have := cl (some z3) (some (z3 + 1))
            unfold sizeLine
            omega
          · have := cl none (some z3)
            have := cl (some z3) (some (z3 + 1))
            have := cl (some z3) none
            rw [List.length_append]
            unfold sizeLine
            omega
          have e8 := e3.trans ((((s4.trans s5).trans s6).trans s7).trans s8)
          have t38 := (((s4.trans s5).trans s6).trans s7).trans s8
          have ok8 : Okd (CN K) M (n + 4) (3 * W + Wo + 30000) (k + ko + 1) G8 (.ref a8) := Okd.tup g8 (Reps.append (Reps.append ((rp3.cut _ _).same e8) ((rp3.cut _ _).same e8)) ((rp3.cut _ _).same e8)) ((fines_append (fines_append (fines_cut fds _ _) (fines_cut fds _ _)) (fines_cut fds _ _)).more (by omega)) (by
            have := wts_cut ds none (some z3)
            have := wts_cut ds (some z3) (some (z3 + 1))
            have := wts_cut ds (some z3) none
            rw [wts_append, wts_append]
            omega) (by
            have := deps_cut ds none (some z3)
            have := deps_cut ds (some z3) (some (z3 + 1))
            have := deps_cut ds (some z3) none
            rw [deps_append, deps_append]
            omega)
          refine ⟨_, rfl, p, vs, rfl, e8 _ _ gp3, fun a9 G9 s9 g9 => ⟨_, rfl, p, vs, rfl, .inr (SqT.of (s9 _ _ (e8 _ _ gp3))), fun a10 n10 => ⟨by show 4 ≤ sizeLine; decide, fun L1 nL1 => ?_⟩⟩⟩
          have e9 := e8.trans s9
          have ok9 : Okd (CN K) M (n + 4) (3 * W + Wo + 30000) (k + ko + 1) G9 (.ref a9) := Okd.tup g9 (Reps.reverse (rp3.same e9)) ((fines_rev fds).more (by omega)) (by
            rw [wts_rev]
            omega) (by
            rw [deps_rev]
            omega)
          have s10 := Same.upd (o := .lst vs) n10
          have m10 : ¬ M a10 := lsF (lsS (lsK lm2 k3 d3) e9) n10
          have e10 := e9.trans s10
          have ok10 : Okd (CN K) M (n + 4) (3 * W + Wo + 30000) (k + ko + 1) _ (.ref a10) := Okd.lst m10 upd_same (rp3.same e10) (fds.more (by omega)) (by omega) (by omega)
          have sL1 := Same.upd (o := .lst [.ref a3, .ref a8, .ref a9, .ref a10]) nL1
          have e11 := e10.trans sL1
          refine ⟨_, rfl, _, rfl, by show 1 ≤ sizeLine; decide, fun b0 nb0 => ⟨p, b0, vs, [.int 0], rfl, rfl, (e11.trans (Same.upd nb0)) _ _ gp3, upd_same, ?_, fun a11 G11 s11 g11 => ⟨_, rfl, by show 1 ≤ sizeLine; decide, fun b1 nb1 => ?_⟩⟩⟩
          · show vs.length + 1 ≤ sizeLine
            unfold sizeLine
            omega
          have sb0 := Same.upd (o := .tup [.int 0]) nb0
          have e12 := (e11.trans sb0).trans s11
          have ok11 : Okd (CN K) M (n + 4) (3 * W + Wo + 30000) (k + ko + 1) G11 (.ref a11) := Okd.tup (ds := ds ++ [.int 0]) g11 (Reps.append (rp3.same e12) (reps_cons.mpr ⟨rep_int_of, reps_nil⟩)) ((fines_append fds (by simp only [Fines, Fine]; exact ⟨Nat.pow_pos (by decide), trivial⟩)).more (by omega)) (by
            rw [wts_append]
            simp only [D.wts, D.wt]
            omega) (by
            rw [deps_append]
            simp only [D.deps, D.dep]
            omega)
          have sb1 := Same.upd (o := .tup [.ref p]) nb1
          have e13 := e12.trans sb1
          have ok12 : Okd (CN K) M (n + 4) (3 * W + Wo + 30000) (k + ko + 1) _ (.ref b1) := Okd.tup (ds := [.tup ds]) upd_same (reps_cons.mpr ⟨by unfold Rep; exact ⟨p, vs, rfl, e13 _ _ gp3, rp3.same e13⟩, reps_nil⟩) (by unfold Fines Fine; exact ⟨fds.more (by omega), by unfold Fines; trivial⟩) (by
            simp only [D.wts, D.wt]
            omega) (by
            simp only [D.deps, D.dep]
            omega)
          have gp13 := e13 _ _ gp3
          refine ⟨_, rfl, _, rfl, _, rfl, p, vs, rfl, gp13, fun a12 G12 s12 g12 => ⟨_, rfl, _, rfl, _, rfl, _, rfl, _, _, rfl, rfl, _, rfl, p, vs, rfl, s12 _ _ gp13, fun a13 G13 s13 g13 => ⟨a13, _, rfl, g13, fun a14 G14 s14 g14 => ⟨a12, a14, _, _, rfl, rfl, (s13.trans s14) _ _ g12, g14, ?_, fun a15 G15 s15 g15 => ⟨_, rfl, _, rfl, _, _, rfl, rfl, _, rfl, p, vs, rfl, (((s12.trans s13).trans s14).trans s15) _ _ gp13, fun a16 G16 s16 g16 => ⟨a15, a16, _, _, rfl, rfl, s16 _ _ g15, g16, ?_, fun a17 G17 s17 g17 => ⟨_, rfl, by show 4 ≤ sizeLine; decide, fun L2 nL2 => ?_⟩⟩⟩⟩⟩⟩⟩
          · have := cl none (some z3)
            have := cl (some z3) (some (z3 + 2))
            rw [List.length_reverse]
            unfold sizeLine
            omega
          · have := cl none (some z3)
            have := cl (some z3) (some (z3 + 2))
            have := cl (some (z3 + 2)) none
            rw [List.length_append, List.length_reverse]
            unfold sizeLine
            omega
          have t17 := ((((s12.trans s13).trans s14).trans s15).trans s16).trans s17
          have e17 := e13.trans t17
          have ok17 : Okd (CN K) M (n + 4) (3 * W + Wo + 30000) (k + ko + 1) G17 (.ref a17) := Okd.tup g17 (Reps.append (Reps.append ((rp3.cut _ _).same e17) (Reps.reverse ((rp3.cut _ _).same e17))) ((rp3.cut _ _).same e17)) ((fines_append (fines_append (fines_cut fds _ _) (fines_rev (fines_cut fds _ _))) (fines_cut fds _ _)).more (by omega)) (by
            have := wts_cut ds none (some z3)
            have := wts_cut ds (some z3) (some (z3 + 2))
            have := wts_cut ds (some (z3 + 2)) none
            rw [wts_append, wts_append, wts_rev]
            omega) (by
            have := deps_cut ds none (some z3)
            have := deps_cut ds (some z3) (some (z3 + 2))
            have := deps_cut ds (some (z3 + 2)) none
            rw [deps_append, deps_append, deps_rev]
            omega)
          have sL2 := Same.upd (o := .lst [.ref a11, .ref b1, .ref a17, od]) nL2
          have gL1 := ((((sb0.trans s11).trans sb1).trans t17).trans sL2) L1 _ upd_same
          refine ⟨L1, L2, _, _, rfl, rfl, gL1, upd_same, by show 8 ≤ sizeLine; decide, fun L3 nL3 => ?_⟩
          have sL3 := Same.upd (o := .lst ([.ref a3, .ref a8, .ref a9, .ref a10] ++ [.ref a11, .ref b1, .ref a17, od])) nL3
          have z17 := sL2.trans sL3
          have z12 := t17.trans z17
          have z11 := sb1.trans z12
          have z10 := sL1.trans ((sb0.trans s11).trans z11)
          have z9 := s10.trans z10
          have z8 := s9.trans z9
          have z3' := t38.trans z8
          have zA := e3.trans z3'
          have all8 : ∀ x ∈ [V.ref a3, .ref a8, .ref a9, .ref a10] ++ [.ref a11, .ref b1, .ref a17, od], Okd (CN K) M (n + 4) (3 * W + Wo + 30000) (k + ko + 1) _ x := fun x hx => by
            simp only [List.cons_append, List.nil_append, List.mem_cons, List.not_mem_nil, or_false] at hx
            rcases hx with rfl | rfl | rfl | rfl | rfl | rfl | rfl | rfl
            · exact ok3.same z3'
            · exact ok8.same z8
            · exact ok9.same z9
            · exact ok10.same z10
            · exact ok11.same z11
            · exact ok12.same z12
            · exact ok17.same z17
            · exact okd3.same zA
          obtain ⟨u, hu, oku⟩ := pick all8 p2 q2
          refine ⟨_, rfl, _, rfl, L3, _, _, _, rfl, rfl, SqL.of upd_same, hu, ?_⟩
          exact hQ u _ (kB.trans (Keep.ofSame zA)) ((d3.same zA).more (by omega)) oku
end
end Fg
set_option Elab.async false
set_option linter.all false
set_option maxRecDepth 100000
set_option maxHeartbeats 1000000
/-! D15: a paper spoilt anywhere. -/
namespace Fg
open PySem PySem.Spec PyProof.Rows L2
section
variable {P : Program} {w : World} {K : PySem.W.Frag} {mg : Str → Option Value} {base : Heap}
theorem cut_lo {xs : List V} {n : Nat} (h : n ≤ xs.length) : cutV xs none (some (n : Int)) = xs.take n := by
  unfold cutV
  rw [HT.sIx_nat, HT.sIx_none]
  simp [Nat.min_eq_left h]
theorem cut_hi {xs : List V} {n : Nat} (h : n ≤ xs.length) : cutV xs (some (n : Int)) none = xs.drop n := by
  unfold cutV
  rw [HT.sIx_nat, HT.sIx_none, Nat.min_eq_left h]
  exact List.take_of_length_le (by rw [List.length_drop]; exact Nat.le_refl _)
def sp_spoilt (K : PySem.W.Frag) (k : Nat) : Sp := fun vs H Q _ => ∃ (a c : Addr) (M : Addr → Prop) (B : Int) (v o : V) (d e : D) (n W Wo ko : Nat), vs = [.ref a, v, o] ∧ Deck H a c B ∧ (∀ p, DM a c p → M p) ∧ Lsts M H ∧ B + 2 * (k : Int) ≤ 2 ^ 57 ∧ Rep (CN K) M H v d ∧ Rep (CN K) M H o e ∧
  140 ≤ n ∧ n ≤ 1000 ∧ Fine n d ∧ Fine n e ∧ D.wt d ≤ W ∧ D.wt e ≤ Wo ∧ W ≤ 1000000 ∧ D.dep d < k ∧ D.dep e ≤ ko ∧
  ∀ u H', Keep (DM a c) H H' → Deck H' a c (B + 2 * (k : Int) + 4) → Okd (CN K) M (n + 4) (3 * W + Wo + 30000) (k + ko + 1) H' u → Q u H'
theorem sc_law_spoilt : FnScope ["_law_deck_here", "_law_thing", "_law_other", "_law_at"] ["_law_deck_here", "_law_thing", "_law_other"] (defScope s_law_spoilt) := ⟨rfl, rfl, rfl, by decide +kernel, rfl, by decide +kernel, by decide +kernel⟩
theorem base_spoilt (T : Tx w K mg) : DefOk P w K mg base "_law_spoilt" 6 [] (sp_spoilt K 0) := by
  obtain ⟨fd, F⟩ := T.q_law_spoilt
  refine DefOk.of (ps := ["_law_deck_here", "_law_thing", "_law_other"]) F T.g_law_spoilt (fun _ _ _ _ _ _ us hl => match us, hl with | [_, _, _], _ => rfl) (FunD.ok0 F sc_law_spoilt (fun vs H Q E h => ?_) (fun cdv A outer s H vs Q E hr h => ?_))
  · obtain ⟨a, c, M, B, v, o, d, e, n, W, Wo, ko, rfl, _⟩ := h
    rfl
  · obtain ⟨a, c, M, B, v, o, d, e, n, W, Wo, ko, rfl, hdk, dm, lm, hB, hv, ho, n0, n1, fd, fe, wd, we, hW, kd, ke, hQ⟩ := h
    exact absurd kd (Nat.not_lt_zero _)
theorem step_spoilt (T : Tx w K mg) (k j : Nat) (ih : DefOk P w K mg base "_law_spoilt" j [] (sp_spoilt K k)) (hj : 6 ≤ j) : DefOk P w K mg base "_law_spoilt" (j + 1) [] (sp_spoilt K (k + 1)) := by
  obtain ⟨fd, F⟩ := T.q_law_spoilt
  refine DefOk.of (ps := ["_law_deck_here", "_law_thing", "_law_other"]) F T.g_law_spoilt (fun _ _ _ _ _ _ us hl => match us, hl with | [_, _, _], _ => rfl) (FunD.ok0 F sc_law_spoilt (fun vs H Q E h => ?_) (fun cdv A outer s H vs Q E hr h => ?_))
  · obtain ⟨a, c, M, B, v, o, d, e, n, W, Wo, ko, rfl, _⟩ := h
    rfl
  · obtain ⟨a, c, M, B, v, o, d, e, n, W, Wo, ko, rfl, hdk, dm, lm, hB, hv, ho, n0, n1, fd, fe, wd, we, hW, kd, ke, hQ⟩ := h
    refine ⟨_, (pss_cons (ps_moS (ps_if (PW.pt (pw_or (pt_not (pt_val (pe_callB call_isi (by rfl) T.n_isinstance (by decide +kernel) (pa_cons (pv 1) (pa_cons (pe_bltn (v := .ty "tuple") (by rfl) (T.n_tuple) (by decide +kernel) rfl) pa_nil))))) (pw_or (pt_cmpR (FgT.op_eqT0 (hr.mono (by omega))) (pv 1) (pe_tup pa_nil) (nomark _)) (pw_or1 (pt_cmpR op_eq (pe_d (ok_law_draw T) (hr.mono (by omega)) (pa_cons (pv 0) (pa_cons pe_int pa_nil))) pe_int (nomark _)))))) (pss_one (ps_ret (pe_d (ok_law_otherwise T) (hr.mono (by omega)) (pa_cons (pv 0) (pa_cons (pv 1) (pa_cons (pv 2) pa_nil)))))) pss_nil))
      (pss_cons (ps_set (i := 3) sc_law_spoilt.nd rfl (Or.inl rfl) (pe_d (ok_law_draw T) (hr.mono (by omega)) (pa_cons (pv 0) (pa_cons (pe_callB call_len_seq (by rfl) T.n_len (by decide +kernel) (pa_cons (pv 1) pa_nil)) pa_nil))))
      (pss_one (ps_ret (pe_op op_catB (pe_op op_catB (pe_slice sl_tupB (pv 1) po_none (po_some (pv 3))) (pe_tup (pa_cons (pe_d ih (hr.mono (by omega)) (pa_cons (pv 0) (pa_cons (pe_ix ix_tup (pv 1) (pv 3) (fun _ _ => rfl)) (pa_cons (pv 2) pa_nil)))) pa_nil))) (pe_slice sl_tupB (pv 1) (po_some (pe_op op_add (pv 3) pe_int)) po_none)))))), ?_⟩
    have fin : ∀ B' H1, Keep (DM a c) H H1 → Deck H1 a c B' → B ≤ B' → B' ≤ B + 1 → sp_otherwise K [.ref a, v, o] H1 Q E0 := fun B' H1 k1 d1 b0 b1 =>
      ⟨a, c, M, B', v, o, d, e, n, W, Wo, k + 1, ko, rfl, d1, dm, lsK lm k1 d1, by omega, hv.keep (kM dm k1) lm, ho.keep (kM dm k1) lm, n0, n1, fd, fe, wd, we, hW, Nat.le_of_lt kd, ke, fun u H' k2 d2 q2 => hQ u H' (k1.trans k2) (d2.more (by omega)) q2⟩
    refine ⟨fun σ' H' => σ' = [some (.ref a), some v, some o, none] ∧ Keep (DM a c) H H' ∧ Deck H' a c (B + 1) ∧ ∃ ds, d = .tup ds ∧ ds ≠ [], ?_, ?_⟩
    · refine ⟨_, rfl, _, _, _, _, _, rfl, .ty _, T.ty.of hv, T.ty.kTup d, _, rfl, ?_⟩
      cases ct : d.isTup with
      | false =>
        refine iteT ⟨_, rfl, _, rfl, _, rfl, ?_⟩
        exact fin B H (Keep.ofSame (Same.refl _)) hdk (by omega) (by omega)
      | true =>
        refine iteF ?_
        obtain ⟨ds, rfl⟩ : ∃ ds, d = .tup ds := by cases d <;> first | exact ⟨_, rfl⟩ | cases ct
        obtain ⟨p, vs, rfl, gp, rp⟩ : ∃ p vs, v = .ref p ∧ H p = some (.tup vs) ∧ Reps (CN K) M H vs ds := by unfold Rep at hv; exact hv
        have lvs := rp.length
        refine ⟨_, rfl, by show 0 ≤ sizeLine; decide, fun b nb => ⟨p, b, vs, rfl, rfl, SqT.of (Same.upd nb _ _ gp), SqT.of upd_same, _, rfl, ?_⟩⟩
        have sb := Same.upd (o := .tup []) nb
        have db := hdk.same sb
        cases vs with
        | nil =>
          refine iteT ⟨_, rfl, _, rfl, _, rfl, ?_⟩
          exact fin B _ (Keep.ofSame sb) db (by omega) (by omega)
        | cons v0 vr =>
          refine iteF ⟨_, rfl, a, c, B, 4, rfl, db, by omega, by decide, by unfold Bd; decide, fun z1 H1 k1 d1 p1 q1 => ?_⟩
          have kA := (Keep.ofSame (M := DM a c) sb).trans k1
          refine ⟨rfl, _, rfl, ?_⟩
          cases hz : decide (V.int z1 = V.int 0) with
          | true =>
            refine iteT ⟨_, rfl, _, rfl, _, rfl, ?_⟩
            exact fin (B + 1) _ kA d1 (by omega) (by omega)
          | false => exact iteF ⟨rfl, kA, d1, ds, rfl, fun e0 => by rw [e0] at lvs; cases lvs⟩
    · rintro σ' H' ⟨rfl, kA, d1, ds, rfl, hds⟩
      obtain ⟨p, vs, rfl, gp, rp⟩ : ∃ p vs, v = .ref p ∧ H p = some (.tup vs) ∧ Reps (CN K) M H vs ds := by unfold Rep at hv; exact hv
      have fds : Fines n ds := by unfold Fine at fd; exact fd
      have wds : 5 + D.wts ds ≤ W := by unfold D.wt at wd; exact wd
      have kds : D.deps ds + 1 < k + 1 := by unfold D.dep at kd; exact kd
      have lds := len_wts ds
      have lvs := rp.length
      have l0 : 0 < ds.length := List.length_pos_iff.mpr hds
      have gp1 := kA.get hdk.lsts gp (fun xs z => by cases z)
      have rp1 := Reps.keep (kM dm kA) lm rp
      refine ⟨_, rfl, _, rfl, p, vs, rfl, .inr (SqT.of gp1), a, c, B + 1, _, rfl, d1, by omega, by omega, bd_small (by omega) (by omega), fun z H2 k2 d2 z0 z1 => ?_⟩
      obtain ⟨m, rfl⟩ := Int.eq_ofNat_of_zero_le z0
      have hm : m < ds.length := by omega
      have kB := kA.trans k2
      have gp2 := kB.get hdk.lsts gp (fun xs z => by cases z)
      have rp2 := Reps.keep (kM dm kB) lm rp
      obtain ⟨vm, gvm, rvm⟩ := rp2.get (List.getElem?_eq_getElem hm)
      have ho2 := ho.keep (kM dm kB) lm
      refine ⟨_, rfl, _, rfl, (m : Int), rfl, p, vs, rfl, gp2, fun a1 G1 s1 g1 => ⟨_, rfl, _, rfl, _, rfl, p, vs, _, vm, rfl, rfl, SqT.of (s1 _ _ gp2), atI_nat gvm, _, rfl, ?_⟩⟩
      have spl : ds.take m ++ ds[m] :: ds.drop (m + 1) = ds := by rw [← List.drop_eq_getElem_cons hm, List.take_append_drop]
      have wsp : D.wts (ds.take m) + (D.wt ds[m] + 2 + D.wts (ds.drop (m + 1))) = D.wts ds := by
        have := congrArg D.wts spl
        rw [wts_append, wts_cons] at this
        exact this
      have dsp : max (D.deps (ds.take m)) (max (D.dep ds[m]) (D.deps (ds.drop (m + 1)))) = D.deps ds := by
        have := congrArg D.deps spl
        rw [deps_append, deps_cons] at this
        exact this
      have fsp : Fines n (ds.take m) ∧ Fine n ds[m] ∧ Fines n (ds.drop (m + 1)) := by
        have h1 := (fines_take m fds)
        rw [List.drop_eq_getElem_cons hm] at h1
        have h2 := h1.2
        unfold Fines at h2
        exact ⟨h1.1, h2.1, h2.2⟩
      refine ⟨a, c, M, B + 1 + 1, vm, o, ds[m], e, n, D.wt ds[m], Wo, ko, rfl, d2.same s1, dm, lsS (lsK lm kB d2) s1, by omega, rvm.same s1, ho2.same s1, n0, n1, fsp.2.1, fe, Nat.le_refl _, we, by omega, by omega, ke, fun u H3 k3 d3 q3 => ?_⟩
      obtain ⟨du, ru, fu, wu, ku⟩ := q3
      refine ⟨by show 1 ≤ sizeLine; decide, fun b nb => ?_⟩
      have sb := Same.upd (o := .tup [u]) nb
      have g13 := (k3.get (d2.same s1).lsts g1 (fun xs z => by cases z))
      have hle : m ≤ vs.length := by omega
      have hle1 : m + 1 ≤ vs.length := by omega
      rw [cut_lo hle] at g13
      refine ⟨a1, b, _, _, rfl, rfl, sb _ _ g13, upd_same, ?_, fun a2 G2 s2 g2 => ?_⟩
      · show (vs.take m).length + 1 ≤ sizeLine
        rw [List.length_take]
        unfold sizeLine
        omega
      have kC := (((kB.trans (Keep.ofSame s1)).trans k3).trans (Keep.ofSame sb)).trans (Keep.ofSame s2)
      have gp4 := kC.get hdk.lsts gp (fun xs z => by cases z)
      have rp4 := Reps.keep (kM dm kC) lm rp
      refine ⟨_, rfl, _, rfl, _, _, rfl, rfl, _, rfl, p, vs, rfl, gp4, fun a3 G3 s3 g3 => ⟨a2, a3, _, _, rfl, rfl, s3 _ _ g2, g3, ?_, fun a4 G4 s4 g4 => ?_⟩⟩
      · have := cut_len vs (some ((m : Int) + 1)) none
        rw [List.length_append, List.length_take]
        show min m vs.length + 1 + _ ≤ _
        unfold sizeLine
        omega
      have e0 : ((m : Int) + 1) = ((m + 1 : Nat) : Int) := rfl
      rw [e0, cut_hi hle1] at g4
      have tE := s3.trans s4
      refine hQ (.ref a4) G4 (kC.trans (Keep.ofSame tE)) (((d3.same sb).same (s2.trans tE)).more (by omega)) ?_
      refine Okd.tup g4 (Reps.append (Reps.append ((rp4.take m).same tE) (reps_cons.mpr ⟨ru.same ((sb.trans s2).trans tE), reps_nil⟩)) ((rp4.drop (m + 1)).same tE)) (fines_append (fines_append (fsp.1.more (by omega)) (by unfold Fines; exact ⟨fu, by unfold Fines; trivial⟩)) (fsp.2.2.more (by omega))) ?_ ?_
      · rw [wts_append, wts_append, wts_cons, D.wts]
        omega
      · rw [deps_append, deps_append, deps_cons, D.deps]
        omega
theorem ok_law_spoilt (T : Tx w K mg) : ∀ k, DefOk P w K mg base "_law_spoilt" (6 + k) [] (sp_spoilt K k)
  | 0 => base_spoilt T
  | k + 1 => step_spoilt T k (6 + k) (ok_law_spoilt T k) (by omega)
end
end Fg
set_option Elab.async false
set_option linter.all false
set_option maxRecDepth 100000
set_option maxHeartbeats 1000000
/-! B8: promises of defs that are kept where no repr is under way. -/
namespace Fg
open PySem PySem.Spec PyProof.Rows L2
/-- a def's promise at places where no container's repr is under way -/
structure FnG (P : Program) (w : World) (K : PySem.W.Frag) (mg : Str → Option Value) (base : Heap) (k : Nat) (f : Addr) (fd : FuncData) (ps : List Str) (sp : Sp) : Prop where
  len : ∀ vs H Q E, sp vs H Q E → vs.length = ps.length
  run : ∀ (A : Around) (outer : List Env) (s : Shared) (H : Hp) (args : Args) (us : List Value) (vs : List V) (Q : VK) (E : XK), A.guards = some [] → Room k A → Env0 P w K mg base A outer s H → BindsTo s fd args (ps.zip us) →
    Vals vs us → sp vs H Q E → codeAny (model P w) A (.call (.ref f) args) (CR CX0 outer P w H s Q E) s
def DefG (P : Program) (w : World) (K : PySem.W.Frag) (mg : Str → Option Value) (base : Heap) (x : Str) (k : Nat) (sp : Sp) : Prop :=
  ∃ (f : Addr) (fd : FuncData) (ps : List Str), mg x = some (.ref f) ∧ PySem.W.keepIn K (.ref f) = true ∧ Binds K fd ps [] ∧ FnG P w K mg base k f fd ps sp
section
variable {P : Program} {w : World} {K : PySem.W.Frag} {mg : Str → Option Value} {base : Heap} {x x' qual : Str} {params : Arguments} {body : List Stmt} {scope : Scope} {f : Addr} {fd : FuncData} {N ps : List Str} {k : Nat} {sp : Sp} {kws : List (Str × V)} {dvs : List V}
theorem fnG_of (F : FunD K x' qual params body scope dvs kws f fd) (S : FnScope N ps scope) (len : ∀ vs H Q E, sp vs H Q E → vs.length = ps.length)
    (hbody : ∀ (cdv : Value) (A : Around) (outer : List Env) (s : Shared) (H : Hp) (vs : List V) (Q : VK) (E : XK), A.guards = some [] → Room k (A.deeper (envOfC qual scope s.heap.objs.size f cdv)) → sp vs H Q E →
      ∃ t, PSs (cxOf CX0 P w K mg base N qual scope f cdv A outer s H E).nox body t ∧ t { nx := fun _ H' => Q .non H', rt := Q } (L2.start N vs) H) : FnG P w K mg base (k + 1) f fd ps sp := by
  obtain ⟨oc, od, dV, kV, doc, pm, an, cdv, ct, osl, rfl, lk, hcd, _, _⟩ := F.ex
  refine ⟨len, fun A outer s H args us vs Q E hg hr e0 hb r hsp => ?_⟩
  exact LamX.run_ofS lk hcd S hr e0 hb r (len _ _ _ _ hsp) fun hr' =>
    let ⟨t, a, b⟩ := hbody cdv A outer s H vs Q E hg hr' hsp
    ⟨t, a.nox, b⟩
theorem DefG.of (F : FunD K x' qual params body scope [] [] f fd) (g : mg x = some (.ref f))
    (b : ∀ (kV doc pm : Value) (an : Option Addr) (cdv ct : Value) (us : List Value), us.length = ps.length → bindArgs (PySem.W.fnOf x' qual params body scope .none kV doc pm an cdv ct) ⟨us, []⟩ = pure (ps.zip us))
    (h : FnG P w K mg base k f fd ps sp) : DefG P w K mg base x k sp := ⟨f, fd, ps, g, F.kp, F.bindsN b, h⟩
end
section
variable {X : Cx} {k : Nat} {sp : Sp} {x : Str} {p pos : Pos} {e : Expr} {es : List Expr} {t : TA}
theorem runG {pins : List (Addr × Obj)} {σ : L2.St} {H : Hp} {s : Shared} {Q : VK} {us : List Value} {vs : List V} {f : Addr} {fd : FuncData} {ps : List Str} (F : FnG X.prog X.w X.K X.mg X.base k f fd ps sp) (hgu : X.A.guards = some []) (hr : Room k X.A)
    (hb : Binds X.K fd ps []) (I : Inv X pins σ H s) (r : Vals vs us) (h : sp vs H Q E0) : wpAny (model X.prog X.w) X.A (call (.ref f) us) (EP X pins σ Q) X.xe s := by
  have hl : (us ++ []).length = ps.length := by
    rw [List.append_nil, ← r.length]
    exact F.len _ _ _ _ h
  have hbt := hb s us I.kIn hl
  rw [List.append_nil] at hbt
  have run := F.run X.A X.stack s H ⟨us, []⟩ us vs Q E0 hgu hr I.env0 hbt r h
  refine wpAny_call (codeAny_mono run fun r' s' hq => ?_)
  match r', hq with
  | .error e, hq => exact pass0 pins σ H s e s' I hq
  | .ok (.ret u), hq => exact I.after hq
/-- f(e, ..) where no repr is under way -/
theorem pe_dG (D : DefG X.prog X.w X.K X.mg X.base x k sp) (hgu : X.A.guards = some []) (hr : Room k X.A) (ha : PA X (e :: es) t) (hg : Gl X x := by rfl)
    (hdb : (x == ("__debug__" : Str)) = false := by decide) (he : starEach (e :: es) X.env = (false, eval e X.env) :: starEach es X.env := by rfl) (hpl : (backTo pos (starEach es X.env)).any (·.1) = false := by rfl) :
    PE X (.Call (.Name x p) (e :: es) [] pos) (tCall sp [] E0 t) := by
  obtain ⟨f, fd, ps, gm, kp, bd, F⟩ := D
  refine ⟨fun pins s σ H Q I h => wpAny_Call_Name_kw (ld_glob I hg gm ?_ hdb)⟩
  exact PySem.W.callWith_K (h₀ := X.base) I.ok.mod.kin kp (thn (ha.run pos pins s σ H _ I h) fun us s1 ⟨vs, H1, I1, r, q⟩ => ⟨I1.kIn, runG F hgu hr bd I1 r (by
    have q' : sp (vs ++ []) H1 Q E0 := q
    rw [List.append_nil] at q'
    exact q')⟩) he hpl
end
end Fg
set_option Elab.async false
set_option linter.all false
set_option maxRecDepth 100000
/-! R1: a datum whose text is that of a tuple of three ints is such a tuple. -/
namespace Fg
open PySem PySem.Spec PyProof.Rows L2
def ch (s : Str) : List Nat := s.cps.toList
theorem ch_app (a b : Str) : ch (a ++ b) = ch a ++ ch b := cps_toList_append a b
theorem int_ch {i : Int} {k : Nat} (h : k ∈ ch ((toString i : String) : Str)) : k = 45 ∨ (48 ≤ k ∧ k ≤ 57) := by
  by_cases q : k ≠ 45 ∧ (k < 48 ∨ 57 < k)
  · exact absurd h (int_text_free' k q i)
  · omega
theorem int_str_inj {i j : Int} (h : (toString i : String) = toString j) : i = j := Int.repr_injective h
theorem int_inj {i j : Int} (h : ch ((toString i : String) : Str) = ch ((toString j : String) : Str)) : i = j := by
  unfold ch at h
  rw [show (((toString i : String) : Str)).cps.toList = _ from signs_ofString _, show (((toString j : String) : Str)).cps.toList = _ from signs_ofString _] at h
  refine int_str_inj (String.ext ?_)
  exact (List.map_inj_right (fun a b e => by exact Char.toNat_inj.mp e)).mp h
theorem int_no44 {i : Int} : 44 ∉ ch ((toString i : String) : Str) := fun h => by
  have := int_ch h
  omega
/-- the signs of such a text behind its first -/
def okC (c : Nat) : Prop := c = 41 ∨ c = 44 ∨ c = 32 ∨ c = 45 ∨ (48 ≤ c ∧ c ≤ 57)
theorem comma_split : ∀ {a b r s : List Nat}, 44 ∉ a → 44 ∉ b → a ++ 44 :: r = b ++ 44 :: s → a = b ∧ r = s
  | [], [], r, s, _, _, h => by
    simp only [List.nil_append, List.cons.injEq, true_and] at h
    exact ⟨rfl, h⟩
  | [], y :: b, r, s, _, hb, h => by
    simp only [List.nil_append, List.cons_append, List.cons.injEq] at h
    rw [← h.1] at hb
    exact absurd (List.mem_cons_self ..) hb
  | x :: a, [], r, s, ha, _, h => by
    simp only [List.nil_append, List.cons_append, List.cons.injEq] at h
    rw [h.1] at ha
    exact absurd (List.mem_cons_self ..) ha
  | x :: a, y :: b, r, s, ha, hb, h => by
    simp only [List.cons_append, List.cons.injEq] at h
    obtain ⟨e1, e2⟩ := comma_split (fun m => ha (List.mem_cons_of_mem _ m)) (fun m => hb (List.mem_cons_of_mem _ m)) h.2
    rw [h.1, e1]
    exact ⟨rfl, e2⟩
theorem ch_tup (ts : List Str) : ch (tupleText ts) = 40 :: (ch (Str.join ", " ts) ++ (if ts.length = 1 then [44, 41] else [41])) := by
  unfold tupleText
  rw [ch_app, ch_app]
  show [40] ++ _ ++ _ = _
  by_cases h : ts.length = 1
  · rw [if_pos h, h]
    rfl
  · rw [if_neg h, if_neg (by simpa using h)]
    rfl
theorem quote_in (x : Str) : reprQuote x ∈ ch (reprText x) := by
  unfold reprText ch
  simp
theorem quote_bad (x : Str) : reprQuote x = 34 ∨ reprQuote x = 39 := by
  unfold reprQuote
  split <;> simp
theorem tf_in {c : Nat} : ∀ (ts : List Str) (k : Nat) (acc : Str), c ∈ ch acc → c ∈ ch (textFrom k acc ts)
  | [], _, _, h => h
  | t :: r, k, acc, h => by
    unfold textFrom
    refine tf_in r _ _ ?_
    rw [ch_app, ch_app]
    exact List.mem_append.mpr (.inl (List.mem_append.mpr (.inl h)))
theorem bad_of : ∀ {d : D}, d.isInt = false → ∃ c ∈ ch (reprD d), ¬ okC c ∧ (d.isTup = false → c ≠ 40)
  | .non, _ => ⟨78, by unfold reprD; decide, by unfold okC; omega, fun _ => by decide⟩
  | .bl true, _ => ⟨84, by unfold reprD; decide, by unfold okC; omega, fun _ => by decide⟩
  | .bl false, _ => ⟨70, by unfold reprD; decide, by unfold okC; omega, fun _ => by decide⟩
  | .int i, h => by cases h
  | .str x, _ => ⟨reprQuote x, by unfold reprD; exact quote_in x, by have := quote_bad x; unfold okC; omega, fun _ => by have := quote_bad x; omega⟩
  | .num q, _ => ⟨78, by
      unfold reprD numR
      rw [ch_app, ch_app, ch_app, ch_app, ch_app]
      have : 78 ∈ ch (Str.ofString "Number(") := by decide
      simp [this], by unfold okC; omega, fun _ => by decide⟩
  | .tup ds, _ => ⟨40, by
      unfold reprD
      rw [ch_tup]
      exact List.mem_cons_self .., by unfold okC; omega, fun h => by cases h⟩
  | .lst ds, _ => ⟨91, by
      unfold reprD listText
      rw [ch_app]
      exact List.mem_append.mpr (.inl (tf_in _ _ _ (by decide))), by unfold okC; omega, fun _ => by decide⟩
  | .dic, _ => ⟨123, by unfold reprD; decide, by unfold okC; omega, fun _ => by decide⟩
theorem mem_reprDs : ∀ {ds : List D} {d : D}, d ∈ ds → reprD d ∈ reprDs ds
  | x :: r, d, h => by
    unfold reprDs
    rcases List.mem_cons.mp h with e | e
    · rw [e]; exact List.mem_cons_self ..
    · exact List.mem_cons_of_mem _ (mem_reprDs e)
theorem ints_of : ∀ {ds : List D}, (∀ d ∈ ds, d.isInt = true) → ∃ is : List Int, ds = is.map D.int
  | [], _ => ⟨[], rfl⟩
  | d :: r, h => by
    obtain ⟨is, e⟩ := ints_of fun x hx => h x (List.mem_cons_of_mem _ hx)
    have h1 := h d (List.mem_cons_self ..)
    cases d <;> first | (cases h1; done) | skip
    rename_i i
    exact ⟨i :: is, by rw [e]; rfl⟩
def itx (i : Int) : List Nat := ch ((toString i : String) : Str)
theorem ch_sep : ch ((", " : String) : Str) = [44, 32] := signs_sep
theorem text3 (a b c : Int) : ch (reprD (.tup [.int a, .int b, .int c])) = 40 :: (itx a ++ 44 :: 32 :: (itx b ++ 44 :: 32 :: (itx c ++ [41]))) := by
  unfold reprD
  rw [ch_tup]
  simp only [reprDs, reprD, join_cons_cons, join_one, ch_app, ch_sep]
  simp [itx, ch]
theorem ok3 {a b c : Int} : ∀ k ∈ itx a ++ 44 :: 32 :: (itx b ++ 44 :: 32 :: (itx c ++ [41])), okC k := fun k hk => by
  unfold okC
  simp only [List.mem_append, List.mem_cons, List.not_mem_nil, or_false] at hk
  rcases hk with h | h | h | h | h | h | h | h
  · have := int_ch h; omega
  · omega
  · omega
  · have := int_ch h; omega
  · omega
  · omega
  · have := int_ch h; omega
  · omega
theorem tup3_of {d : D} {a b c : Int} (h : reprD d = reprD (.tup [.int a, .int b, .int c])) : d = .tup [.int a, .int b, .int c] := by
  have h := congrArg ch h
  rw [text3] at h
  cases hi : d.isInt with
  | true =>
    obtain ⟨i, rfl⟩ : ∃ i, d = .int i := by cases d <;> first | exact ⟨_, rfl⟩ | cases hi
    have h40 : 40 ∈ ch (reprD (.int i)) := by rw [h]; exact List.mem_cons_self ..
    unfold reprD at h40
    have := int_ch h40
    omega
  | false =>
    cases ht : d.isTup with
    | false =>
      obtain ⟨k, hk, b1, b2⟩ := bad_of hi
      rw [h] at hk
      rcases List.mem_cons.mp hk with e | e
      · exact absurd e (b2 ht)
      · exact absurd (ok3 k e) b1
    | true =>
      obtain ⟨ds, rfl⟩ : ∃ ds, d = .tup ds := by cases d <;> first | exact ⟨_, rfl⟩ | cases ht
      unfold reprD at h
      rw [ch_tup] at h
      simp only [List.cons.injEq, true_and] at h
      have hall : ∀ d ∈ ds, d.isInt = true := fun d hd => by
        cases q : d.isInt with
        | true => rfl
        | false =>
          obtain ⟨k, hk, b1, _⟩ := bad_of q
          refine absurd (ok3 (a := a) (b := b) (c := c) k ?_) b1
          rw [← h]
          exact List.mem_append.mpr (.inl ((mem_join _ _ _).mpr (.inl ⟨_, mem_reprDs hd, hk⟩)))
      obtain ⟨is, rfl⟩ := ints_of hall
      have n44 : ∀ i : Int, 44 ∉ itx i := fun i => int_no44
      have m44 : ∀ i : Int, 44 ∉ itx i ++ [41] := fun i m => by
        rcases List.mem_append.mp m with m | m
        · exact n44 i m
        · simp at m
      rcases is with _ | ⟨i, _ | ⟨j, _ | ⟨k, _ | ⟨l, r⟩⟩⟩⟩
      · exfalso
        have : 44 ∈ ch (Str.join ", " (reprDs ([].map D.int))) ++ (if (reprDs ([].map D.int)).length = 1 then [44, 41] else [41]) := by rw [h]; simp
        revert this
        decide
      · exfalso
        have h : itx i ++ 44 :: [41] = _ := h
        have := (comma_split (n44 i) (n44 a) h).2
        simp at this
      · exfalso
        simp only [List.map, reprDs, reprD, join_cons_cons, join_one, ch_app, ch_sep] at h
        have h : itx i ++ [44, 32] ++ itx j ++ [41] = _ := h
        simp only [List.append_assoc, List.cons_append, List.nil_append] at h
        have h2 := (comma_split (n44 i) (n44 a) h).2
        simp only [List.cons.injEq, true_and] at h2
        exact m44 j (by rw [h2]; simp)
      · simp only [List.map, reprDs, reprD, join_cons_cons, join_one, ch_app, ch_sep] at h
        have h : itx i ++ [44, 32] ++ (itx j ++ [44, 32] ++ itx k) ++ [41] = _ := h
        simp only [List.append_assoc, List.cons_append, List.nil_append] at h
        obtain ⟨e1, h2⟩ := comma_split (n44 i) (n44 a) h
        simp only [List.cons.injEq, true_and] at h2
        obtain ⟨e2, h3⟩ := comma_split (n44 j) (n44 b) h2
        simp only [List.cons.injEq, true_and] at h3
        have e3 := List.append_cancel_right h3
        rw [int_inj e1, int_inj e2, int_inj e3]
        rfl
      · exfalso
        simp only [List.map, reprDs, reprD, join_cons_cons, ch_app, ch_sep] at h
        have h : itx i ++ [44, 32] ++ (itx j ++ [44, 32] ++ (itx k ++ [44, 32] ++ _)) ++ _ = _ := h
        simp only [List.append_assoc, List.cons_append, List.nil_append] at h
        obtain ⟨e1, h2⟩ := comma_split (n44 i) (n44 a) h
        simp only [List.cons.injEq, true_and] at h2
        obtain ⟨e2, h3⟩ := comma_split (n44 j) (n44 b) h2
        simp only [List.cons.injEq, true_and] at h3
        exact m44 c (by rw [← h3]; simp)
theorem round_text {x : Rat} {z : Way} {d : D} : decide (reprD d = reprD (.tup [.int x.floor, .int (hiN x), .int (cnt z x)])) = roundB x z d := by
  by_cases h : reprD d = reprD (.tup [.int x.floor, .int (hiN x), .int (cnt z x)])
  · rw [decide_eq_true h, tup3_of h, roundB_tup]
    simp
  · rw [decide_eq_false h]
    symm
    unfold roundB
    split
    · rename_i i j k
      by_cases e1 : i = x.floor
      · by_cases e2 : j = hiN x
        · by_cases e3 : k = cnt z x
          · subst e1 e2 e3
            exact absurd rfl h
          · simp [e3]
        · simp [e2]
      · simp [e1]
    · rfl
end Fg
set_option Elab.async false
set_option linter.all false
set_option maxRecDepth 100000
set_option maxHeartbeats 1000000
/-! D16: what is due of a paper. -/
namespace Fg
open PySem PySem.Spec PyProof.Rows L2
section
variable {P : Program} {w : World} {K : PySem.W.Frag} {mg : Str → Option Value} {base : Heap}
theorem hi_div {a m : Int} (hm : 0 < m) : a / m + (if decide (0 < a % m) = true then 1 else 0) = hiN ((a : Rat) / (m : Rat)) := by
  unfold hiN isI
  rw [fl_div hm]
  have hm' : (m : Rat) ≠ 0 := fun e => by
    have := Rat.intCast_inj.mp (e.trans (show (0 : Rat) = ((0 : Int) : Rat) from rfl))
    omega
  have key : (((a / m : Int) : Rat) = (a : Rat) / (m : Rat)) ↔ a % m = 0 := by
    constructor
    · intro e
      have e2 : (a : Rat) = ((a / m : Int) : Rat) * (m : Rat) := by rw [e]; exact (Rat.div_mul_cancel hm').symm
      rw [← Rat.intCast_mul] at e2
      have e3 := Rat.intCast_inj.mp e2
      have e4 := Int.mul_ediv_add_emod a m
      rw [Int.mul_comm] at e4
      omega
    · intro e
      have e4 := Int.mul_ediv_add_emod a m
      rw [e, Int.add_zero, Int.mul_comm] at e4
      have e5 := congrArg (Int.cast (R := Rat)) e4
      rw [Rat.intCast_mul] at e5
      rw [← e5]
      exact (Rat.mul_div_cancel hm').symm
  have nn := Int.emod_nonneg a (show m ≠ 0 by omega)
  by_cases h : a % m = 0
  · rw [if_pos (decide_eq_true (key.mpr h)), h]
    simp
  · rw [if_neg (fun e => h (key.mp (of_decide_eq_true e))), decide_eq_true (show 0 < a % m by omega)]
    simp
def sp_rdue (K : PySem.W.Frag) : Sp := fun vs H Q _ => ∃ (M : Addr → Prop) (x y v : V) (t b s0 s1 : Int) (z : Way) (d : D), vs = [x, y, .str z.txt, v] ∧ Pair H x t b ∧ Pair H y s0 s1 ∧ 0 < b ∧ 0 < s0 ∧ 0 < s1 ∧ Bd 1000 t ∧ Bd 1000 b ∧ Bd 60 s0 ∧ Bd 60 s1 ∧
  Rep (CN K) M H v d ∧ Fine 1900 d ∧ D.dep d ≤ 20 ∧ D.wt d ≤ sizeLine ∧ ∀ H', Same H H' → Q (.bl (roundB (rat t b s0 s1) z d)) H'
theorem sc_law_round_due : FnScope ["_law_number_here", "_law_step", "_law_rule", "_law_thing", "_law_lesser", "_law_rest", "_law_whole_here"] ["_law_number_here", "_law_step", "_law_rule", "_law_thing"] (defScope s_law_round_due) := ⟨rfl, rfl, rfl, by decide +kernel, rfl, by decide +kernel, by decide +kernel⟩
theorem ok_law_round_due (T : Tx w K mg) : DefG P w K mg base "_law_round_due" 21 (sp_rdue K) := by
  obtain ⟨fd, F⟩ := T.q_law_round_due
  refine DefG.of (ps := ["_law_number_here", "_law_step", "_law_rule", "_law_thing"]) F T.g_law_round_due (fun _ _ _ _ _ _ us hl => match us, hl with | [_, _, _, _], _ => rfl) (fnG_of F sc_law_round_due (fun vs H Q E h => ?_) (fun cdv A outer s H vs Q E hgu hr h => ?_))
  · obtain ⟨M, x, y, v, t, b, s0, s1, z, d, rfl, _⟩ := h
    rfl
  · obtain ⟨M, x, y, v, t, b, s0, s1, z, d, rfl, hx, hy, hb, h0, h1, bt, bb, b0, b1, hv, fd, kd, wd, hQ⟩ := h
    refine ⟨_, (pss_cons (ps_asg (pe_d (ok_law_beyond T) (hr.mono (by decide)) (pa_cons (pv 0) (pa_cons (pv 1) pa_nil))) (pg_tup (by rfl) (pgs_cons (pg_name (i := 4) sc_law_round_due.nd rfl (Or.inl rfl)) (pgs_cons (pg_tup (by rfl) (pgs_cons (pg_name (i := 5) sc_law_round_due.nd rfl (Or.inl rfl)) (pgs_cons (pg_name (i := 6) sc_law_round_due.nd rfl (Or.inl rfl)) pgs_nil))) pgs_nil))))
      (pss_one (ps_ret (pe_cmpR op_eq (pe_callB (call_repr T hgu (hr.mono (by decide))) (by rfl) T.n_repr (by decide +kernel) (pa_cons (pv 3) pa_nil)) (pe_callB (call_repr T hgu (hr.mono (by decide))) (by rfl) T.n_repr (by decide +kernel) (pa_cons (pe_tup (pa_cons (pv 4) (pa_cons (pe_op op_add (pv 4) (pe_callTy call_int1 (by rfl) T.n_int (by decide +kernel) (pa_cons (pe_cmpR op_gt (pv 5) pe_int (nomark _)) pa_nil))) (pa_cons (pe_d (ok_law_steps T) (hr.mono (by decide)) (pa_cons (pv 0) (pa_cons (pv 1) (pa_cons (pv 2) pa_nil)))) pa_nil)))) pa_nil)) (nomark _))))), ?_⟩
    refine ⟨_, rfl, _, rfl, x, y, t, b, s0, s1, rfl, hx, hy, hb, h0, bt.mono (by decide), bb.mono (by decide), b0, b1, fun p q H1 s1' np ep eq => ⟨p, _, rfl, SqT.of ep, rfl, _, _, rfl, _, _, rfl, ⟨q, _, rfl, SqT.of eq, rfl, _, _, rfl, _, _, rfl, rfl, rfl, ?_⟩⟩⟩
    refine ⟨_, rfl, M, v, d, rfl, hv.same s1', fd, kd, wd, _, rfl, _, rfl, _, rfl, _, _, rfl, rfl, .inr ⟨_, rfl, _, _, rfl, rfl, _, rfl, _, rfl, _, rfl, x, y, t, b, s0, s1, z, rfl, hx.same s1', hy.same s1', hb, h0, h1, bt.mono (by decide), bb.mono (by decide), b0, b1, fun H2 s2 => ⟨by show 3 ≤ sizeLine; decide, fun r nr => ?_⟩⟩⟩
    have hm := Int.mul_pos hb h0
    have sx : Sz 1060 (rat t b s0 s1) := by
      rw [rat_eq hb h0 h1]
      exact Sz.mk hm (bt.mul b1) (bb.mul b0)
    have hfl : (rat t b s0 s1).floor = t * s1 / (b * s0) := by rw [rat_eq hb h0 h1, fl_div hm]
    have hhi : t * s1 / (b * s0) + (if decide (0 < t * s1 % (b * s0)) = true then 1 else 0) = hiN (rat t b s0 s1) := by
      rw [rat_eq hb h0 h1]
      exact hi_div hm
    refine ⟨M, _, .tup [.int (t * s1 / (b * s0)), .int (t * s1 / (b * s0) + (if decide (0 < t * s1 % (b * s0)) = true then 1 else 0)), .int (cnt z (rat t b s0 s1))], rfl, ?_, ?_, by simp only [D.dep, D.deps]; decide, ?_, rfl, ?_⟩
    · unfold Rep
      exact ⟨r, _, rfl, upd_same, reps_cons.mpr ⟨rep_int_of, reps_cons.mpr ⟨rep_int_of, reps_cons.mpr ⟨rep_int_of, reps_nil⟩⟩⟩⟩
    · rw [hhi, ← hfl]
      simp only [Fine, Fines]
      refine ⟨sx.floor.mono (by decide), ?_, (sx.cnt (by decide)).mono (by decide), trivial⟩
      unfold hiN
      split
      · exact sx.floor.mono (by decide)
      · exact (sx.floor.add (show Bd 1060 1 by unfold Bd; decide)).mono (by decide)
    · simp only [D.wt, D.wts]
      decide
    · have q := hQ _ ((s1'.trans s2).trans (Same.upd (o := .tup [.int (t * s1 / (b * s0)), .int (t * s1 / (b * s0) + (if decide (0 < t * s1 % (b * s0)) = true then 1 else 0)), .int (cnt z (rat t b s0 s1))]) nr))
      have e : decide (V.str (reprD d) = V.str (reprD (.tup [.int (t * s1 / (b * s0)), .int (t * s1 / (b * s0) + (if decide (0 < t * s1 % (b * s0)) = true then 1 else 0)), .int (cnt z (rat t b s0 s1))]))) = roundB (rat t b s0 s1) z d := by
        rw [hhi, ← hfl, ← round_text]
        exact decide_eq_decide.mpr ⟨fun e => by injection e, fun e => by rw [e]⟩
      rw [← e] at q
      exact q
end
end Fg
set_option Elab.async false
set_option linter.all false
set_option maxRecDepth 100000
set_option maxHeartbeats 2000000
/-! B9: lambdas of one parameter, kept in lists. -/
namespace Fg
open PySem PySem.Spec PyProof.Rows L2 LamX
/-- the object of such a lambda, made in the frame of env -/
def LamO (env : Env) (params : Arguments) (body : Expr) (scope : Scope) (f c' : Addr) : HO := .ext fun h => ∃ pm ctv : Value, h.get? f = some (PySem.W.kla_obj "<lambda>" (env.qual ++ "<lambda>") params body scope (cloFrom env.cells scope.names []) pm c' ctv)
theorem lamO_ok {P : Program} {w : World} {env : Env} {params : Arguments} {body : Expr} {scope : Scope} {f c' : Addr} {H : Hp} {h : Heap} {pm ctv : Value} (e : h.get? f = some (PySem.W.kla_obj "<lambda>" (env.qual ++ "<lambda>") params body scope (cloFrom env.cells scope.names []) pm c' ctv)) :
    ObjOk P w H h f (LamO env params body scope f c') := ⟨⟨pm, ctv, e⟩, ⟨_, e⟩, fun _ _ ⟨p, c, q⟩ st => ⟨p, c, st _ q⟩⟩
theorem triple_list (ps : Array Value) (pos : Pos) (c' : Addr) : (ps ++ #[rawInt pos.line, rawInt pos.col, .ref c']).toList = ps.toList ++ [rawInt pos.line, rawInt pos.col, .ref c'] := by simp
theorem upd_none {H : Hp} {a p : Addr} {o : HO} (e : L2.upd H a o p = none) : H p = none := by
  by_cases h : p = a
  · rw [h, upd_same] at e
    cases e
  · rw [upd_ne h] at e
    exact e
theorem upd2_none {H : Hp} {a b p : Addr} {o u : HO} (e : L2.upd (L2.upd H a o) b u p = none) : H p = none := upd_none (upd_none e)
section
variable {X : Cx} {pins : List (Addr × Obj)} {σ : L2.St} {H : Hp} {s : Shared}
/-- the table of the maker's code object has one triple more -/
theorem tabs_more {T : List (Addr × Str)} {P c' : Addr} {q : Str} {ps : Array Value} {pos : Pos} (hT : Tabs T H) (hP : H P = some (.tbl ps)) (ht : TriplesOk ps.toList) (hu : ∀ p ∈ T, p.1 = P → p.2 = q)
    (ha : ∀ (p : Pos) (cv : Value), codeAmong p ps.toList = some cv → ∃ c, cv = .ref c ∧ H c = some (CodeO c q)) (nC : H c' = none) :
    Tabs T (upd (upd H P (.tbl (ps ++ #[rawInt pos.line, rawInt pos.col, .ref c']))) c' (CodeO c' q)) ∧ ExtN H (upd (upd H P (.tbl (ps ++ #[rawInt pos.line, rawInt pos.col, .ref c']))) c' (CodeO c' q)) := by
  have ex : ExtN H (upd (upd H P (.tbl (ps ++ #[rawInt pos.line, rawInt pos.col, .ref c']))) c' (CodeO c' q)) := fun b o e n => by
    have h1 : b ≠ P := fun z => by
      rw [z, hP] at e
      exact n ps (Option.some.inj e).symm
    rw [upd_ne (ne_of_none e nC), upd_ne h1]
    exact e
  refine ⟨fun p hp => ?_, ex⟩
  by_cases hb : p.1 = P
  · have hq := hu p hp hb
    refine ⟨_, by rw [hb, upd_ne (ne_of_none hP nC), upd_same], by rw [triple_list]; exact PySem.TriplesOk_snoc _ _ _ _ ht, fun p' cv hcv => ?_⟩
    rw [triple_list] at hcv
    rw [hq]
    cases among_app _ ht hcv with
    | inl z =>
      obtain ⟨c0, e1, e2⟩ := ha p' cv z
      exact ⟨c0, e1, ex _ _ e2 codeO_ne⟩
    | inr z => exact ⟨c', z, upd_same⟩
  · obtain ⟨qs, a1, a2, a3⟩ := hT p hp
    refine ⟨qs, by rw [upd_ne (ne_of_none a1 nC), upd_ne hb]; exact a1, a2, fun p' cv hcv => ?_⟩
    obtain ⟨c0, e1, e2⟩ := a3 p' cv hcv
    exact ⟨c0, e1, ex _ _ e2 codeO_ne⟩
/-- a lambda is made and known from then on -/
theorem lam_made {T : List (Addr × Str)} {c P : Addr} {params : Arguments} {body : Expr} {scope : Scope} {pos : Pos} {E : Value → Shared → Prop} {Q : Value → Shared → Prop} (I : Inv X pins σ H s) (TB : TabB X.base X.mg c P) (hcode : X.env.code = .ref c)
    (hm : (P, X.env.qual ++ "<lambda>") ∈ T) (hu : ∀ p ∈ T, p.1 = P → p.2 = X.env.qual ++ "<lambda>") (hT : Tabs T H) (hdef : defaultsOf params X.env = ([], [])) (hfree : ∀ y ∈ scope.names, y.2 = .free → ∃ c, X.env.cells.lookup y.1 = some c)
    (h : ∀ (f c' : Addr) (H1 : Hp) (s' : Shared), Inv X pins σ H1 s' → ExtN H H1 → (∀ p, H1 p = none → H p = none) → Tabs T H1 → H f = none → H1 f = some (LamO X.env params body scope f c') → H1 c' = some (CodeO c' (X.env.qual ++ "<lambda>")) → Q (.ref f) s') :
    wpAny (model X.prog X.w) X.A (eval (.Lambda params body scope pos) X.env) Q E s := by
  obtain ⟨ps, hP, ht, ha⟩ := hT _ hm
  have gP := I.hok P _ hP
  have bP := TB.bm.keeps I.bk
  have fin : ∀ (h' : Heap) (tk : Nat) (pm ctv : Value) (c' : Addr) (H1 : Hp), Inv X pins σ H1 { s with heap := h', toks := tk } → ExtN H H1 → (∀ p, H1 p = none → H p = none) → Tabs T H1 → s.heap.objs.size ≤ h'.objs.size → H1 c' = some (CodeO c' (X.env.qual ++ "<lambda>")) →
      Q (.ref h'.objs.size) { s with heap := h'.push (PySem.W.kla_obj "<lambda>" (X.env.qual ++ "<lambda>") params body scope (cloFrom X.env.cells scope.names []) pm c' ctv), toks := tk } := fun h' tk pm ctv c' H1 I1 ex fr tb sz hc => by
    have nf1 : H1 h'.objs.size = none := I1.hok.fresh (Nat.le_refl _)
    have sm := Same.upd (o := LamO X.env params body scope h'.objs.size c') nf1
    exact h _ c' _ _ (I1.laid (t' := tk) (fun b o e => Heap.get?_push_of_some _ e) (Nat.le_refl _) (lamO_ok (Heap.get?_push_size _ rfl))) (ex.trans (ExtN.of sm)) (fun p e => fr p (sm.free e)) (tb.ext sm) (I.hok.fresh sz) upd_same (sm _ _ hc)
  refine PySem.W.kla_eval hdef ?_
  cases hc : codeAmong pos ps.toList with
  | some cv =>
    obtain ⟨c', rfl, hco⟩ := ha pos cv hc
    exact PySem.W.kla_makeFunctionHit (mg := X.mg) (c := c) (P := P) (ps := ps) (closure_ok hfree) I.ok.glob (I.mod.glob.keeps I.bk) hcode (TB.code.keeps I.bk) gP ht hc bP fun ctv h' tk hx sz => fin h' tk _ ctv c' H (I.kept hx) (ExtN.refl H) (fun _ e => e) hT sz hco
  | none =>
    refine PySem.W.kla_makeFunction (mg := X.mg) (c := c) (P := P) (ps := ps) (closure_ok hfree) I.ok.glob (I.mod.glob.keeps I.bk) hcode (TB.code.keeps I.bk) gP ht hc TB.gP bP fun c' ctv h' tk hx hge hlt hrec htb => ?_
    obtain ⟨c2, oc, vs, t, e2, hoc, hd, hv⟩ := hrec
    injection e2 with e2
    subst e2
    have nC := I.hok.fresh hge
    obtain ⟨tb, ex⟩ := tabs_more (c' := c') (pos := pos) hT hP ht hu ha nC
    exact fin h' tk _ ctv c' _ (inv_table (t' := tk) I hP (fun b o hb e => hx b o hb e) htb hge ⟨oc, vs, t, hoc, hd, hv⟩) ex (fun p e => upd2_none e) tb (Nat.le_of_lt (Nat.lt_of_le_of_lt hge hlt)) upd_same
end
end Fg
set_option Elab.async false
set_option linter.all false
set_option maxRecDepth 100000
set_option maxHeartbeats 2000000
/-! B10: lambdas of one parameter called where they are handed to. -/
namespace Fg
open PySem PySem.Spec PyProof.Rows L2 LamX
/-- par is the one name of its own -/
structure LamP (sc scope : Scope) (par : Str) : Prop where
  kind : scope.kind = .function
  co : scope.isCoroutine = false
  gen : scope.isGenerator = false
  mine : scope.names.lookup par = some .local
  own : ∀ y ∈ scope.names, y.2 = .local → y.1 = par
  cell : ∀ y ∈ scope.names, y.2 ≠ .cell
  free : ∀ y ∈ scope.names, y.2 = .free → sc.names.lookup y.1 = some .cell
def lamPB (sc scope : Scope) (par : Str) : Bool :=
  decide (scope.kind = .function) && (!scope.isCoroutine && (!scope.isGenerator && (decide (scope.names.lookup par = some .local) && scope.names.all fun y => (!decide (y.2 = .local) || y.1 == par) && (!decide (y.2 = .cell) && (!decide (y.2 = .free) || decide (sc.names.lookup y.1 = some .cell))))))
theorem lamP_by {sc scope : Scope} {par : Str} (h : lamPB sc scope par = true) : LamP sc scope par := by
  unfold lamPB at h
  simp only [Bool.and_eq_true, Bool.or_eq_true, Bool.not_eq_true', decide_eq_true_eq, decide_eq_false_iff_not, List.all_eq_true, beq_iff_eq] at h
  obtain ⟨h1, h2, h3, h4, h5⟩ := h
  exact ⟨h1, h2, h3, h4, fun y hy e => (h5 y hy).1.resolve_left fun n => n e, fun y hy => (h5 y hy).2.1, fun y hy e => (h5 y hy).2.2.resolve_left fun n => n e⟩
theorem LamP.has {X : Cx} {scope : Scope} {par : Str} (L : LamP X.env.scope scope par) (ok : X.Ok) : ∀ y ∈ scope.names, y.2 = .free → ∃ c, X.env.cells.lookup y.1 = some c := fun y hy e => ok.has _ (.inl (L.free y hy e))
/-- the place of the lambda's body -/
def lamCx1 (X : Cx) (A : Around) (outer : List Env) (s : Shared) (H : Hp) (scope : Scope) (par : Str) (f c' : Addr) : Cx := { lamCx X A outer s H E0 scope f c' with N := X.N ++ [par], xe := fun _ _ => False }
section
variable {X : Cx} {pins : List (Addr × Obj)} {σ : L2.St} {H HZ : Hp} {s s1 : Shared}
theorem lam_start1 {A : Around} {outer : List Env} {scope : Scope} {par : Str} {f c' : Addr} {h₁ : Heap} {tk : Nat} {u : Value} {v : V} (I : Inv X pins σ H s) (L : LamP X.env.scope scope par) (np : par ∉ X.N) (e0 : Env0 X.prog X.w X.K X.mg X.base A outer s1 HZ) (hd : A.handled = none)
    (un : Un (frs X.stack) [] H HZ s.heap s1.heap) (r : RelV v u) (hns : h₁.Ns s1.heap.objs.size fun y => ([(par, u)] : List (Str × Value)).reverse.lookup y) (kp : ∀ b o, s1.heap.get? b = some o → h₁.get? b = some o) :
    Inv (lamCx1 X A outer s1 HZ scope par f c') [] (σ ++ [some v]) HZ { s1 with heap := h₁, toks := tk } := by
  have hfree := L.has I.ok
  have inX : ∀ {y c}, (cloFrom X.env.cells scope.names []).lookup y = some c → X.env.cells.lookup y = some c := fun {y c} e => by
    rcases cloFrom_mem (PySem.mem_of_lookup e) with hm | ⟨hy, hc⟩
    · cases hm
    · obtain ⟨c1, h1⟩ := hfree _ hy rfl
      have h2 : X.env.cells.lookup y = some c1 := h1
      rw [h2] at hc ⊢
      rw [hc]
      rfl
  have found : ∀ {y}, scope.names.lookup y = some .free → ∃ c, (cloFrom X.env.cells scope.names []).lookup y = some c := fun {y} hl =>
    mem_lookup (cloFrom_has (cells := X.env.cells) (acc := []) (show (y, NameKind.free) ∈ scope.names from PySem.mem_of_lookup hl))
  have moved : ∀ {c : Addr} {z : Option Value}, H c = none → s.heap.IsCell c z → h₁.IsCell c z := fun {c z} n ⟨o, ho, hd⟩ =>
    let ⟨sl, q⟩ := un.any ho n (by simp)
    ⟨_, kp _ _ q, hd⟩
  have none_ : ∀ b : Addr, b ∉ (lamCx1 X A outer s1 HZ scope par f c').ex := fun b z => nomatch (show b ∈ ([] : List Addr) from z)
  have ok : (lamCx1 X A outer s1 HZ scope par f c').Ok := {
    mod := e0.mod, kind := L.kind, glob := rfl, blt := rfl, above := Nat.le_refl _,
    inj := fun y z c e1 e2 => I.ok.inj y z c (inX e1) (inX e2),
    has := fun y hy => (show scope.names.lookup y = some .cell ∨ scope.names.lookup y = some .free from hy).elim (fun k => absurd rfl (L.cell _ (PySem.mem_of_lookup k))) found,
    cab := fun y c z => Bool.noConfusion (show false = true from z),
    hd := fun _ => hd, frames := Around.frames_deeper e0.frames, stk := .inr ⟨rfl, rfl⟩, exf := fun b z => absurd z (none_ b), bs := e0.bs, bsz := e0.bsz, noex := fun b _ _ => none_ b,
    exfs := fun b z => absurd z (none_ b), funs := e0.funs, frf := e0.frf }
  refine ⟨ok, rfl, e0.bare, Un.kept kp, ⟨_, hns, fun i y x e1 e2 e3 => ?_⟩, fun y c e => ?_, e0.hok.fresh (Nat.le_refl _), fun y c e => ?_, fun q hq => absurd (show q ∈ ([] : List (Addr × Obj)) ++ [] from hq) (by simp), e0.hok.kept kp, ?_⟩
  · have e3' : Vis scope y := e3
    have e1' : (X.N ++ [par])[i]? = some y := e1
    have hlen := I.len
    by_cases hi : i < X.N.length
    · rw [List.getElem?_append_left hi] at e1'
      rw [List.getElem?_append_left (by omega)] at e2
      have hyn : y ≠ par := fun z => np (by rw [← z]; exact List.mem_of_getElem? e1')
      rcases e3' with k | k | k
      · exact absurd (L.own _ (PySem.mem_of_lookup k) rfl) hyn
      · exact absurd rfl (L.cell _ (PySem.mem_of_lookup k))
      · have kc := L.free _ (PySem.mem_of_lookup k) rfl
        obtain ⟨m, hn, hl⟩ := I.loc
        obtain ⟨x', rx, q⟩ := hl i y x e1' e2 (.inr (.inl kc))
        obtain ⟨c2, h2⟩ := found k
        refine ⟨x', rx, .inr ⟨.inr k, c2, h2, ?_⟩⟩
        rcases q with ⟨k', _⟩ | ⟨_, c3, e', z⟩
        · have k' : X.env.scope.names.lookup y = some .local := k'
          rw [kc] at k'
          cases k'
        · have c1 := inX h2
          rw [c1] at e'
          cases e'
          exact moved (I.freeC y _ c1) z
    · have hi2 : i = X.N.length := by
        have := (List.getElem?_eq_some_iff.mp e1').1
        rw [List.length_append] at this
        simp only [List.length_cons, List.length_nil] at this
        omega
      subst hi2
      rw [List.getElem?_append_right (Nat.le_refl _), Nat.sub_self] at e1'
      rw [List.getElem?_append_right (by omega), hlen, Nat.sub_self] at e2
      cases e1'
      cases e2
      refine ⟨u, r, .inl ⟨L.mine, ?_⟩⟩
      show ([(par, u)] : List (Str × Value)).lookup par = some u
      rw [List.lookup_cons, beq_self_eq_true]
  · obtain ⟨x, z⟩ := I.cell y c (inX e)
    exact ⟨x, moved (I.freeC y c (inX e)) z⟩
  · obtain ⟨x, o, ho, hd⟩ := I.cell y c (inX e)
    exact un.free c o ho (I.freeC y c (inX e)) (by simp)
  · show (σ ++ [some v]).length = (X.N ++ [par]).length
    rw [List.length_append, List.length_append, I.len]
    rfl
/-- what a lambda's value at f does, called where no repr is under way -/
def Callee (X : Cx) (σ : L2.St) (f : Addr) (H : Hp) (k : Nat) (told : V → Hp → VK → Prop) : Prop :=
  ∃ (params : Arguments) (body : Expr) (scope : Scope) (par : Str) (c' : Addr) (tb : TE), LamP X.env.scope scope par ∧ par ∉ X.N ∧ H f = some (LamO X.env params body scope f c') ∧ H c' = some (CodeO c' (X.env.qual ++ "<lambda>")) ∧
    (∀ (q : Str) (cl : List (Str × Addr)) (pm cv ctv : Value) (u : Value), bindArgs (PySem.W.kla_fn "<lambda>" q params body scope cl pm cv ctv) ⟨[u], []⟩ = pure [(par, u)]) ∧
    (∀ (A : Around) (outer : List Env) (s : Shared) (H : Hp), A.guards = some [] → Room k (A.deeper (lamEnv X scope s.heap.objs.size f c')) → PE (lamCx1 X A outer s H scope par f c') body tb) ∧
    ∀ v H' Q, told v H' Q → tb (σ ++ [some v]) H' Q
theorem lamO_nl {env : Env} {params : Arguments} {body : Expr} {scope : Scope} {f c' : Addr} (xs : List V) : LamO env params body scope f c' ≠ .lst xs := fun z => by
  unfold LamO at z
  cases z
theorem codeO_nl {c : Addr} {q : Str} (xs : List V) : CodeO c q ≠ .lst xs := fun z => by
  unfold CodeO at z
  cases z
theorem Callee.keep {M : Addr → Prop} {H H' : Hp} {f : Addr} {k : Nat} {told : V → Hp → VK → Prop} (C : Callee X σ f H k told) (kp : Keep M H H') (l : Lsts M H) : Callee X σ f H' k told := by
  obtain ⟨params, body, scope, par, c', tb, h1, h2, h3, h4, h5⟩ := C
  exact ⟨params, body, scope, par, c', tb, h1, h2, kp.get l h3 lamO_nl, kp.get l h4 codeO_nl, h5⟩
/-- x(e) of such a value, in the def that it was handed to -/
theorem pe_told {Ng : List Str} {qg : Str} {sg : Scope} {g : Addr} {cdg : Value} {k i : Nat} {a : Str} {e : Expr} {ta : TA} {f : Addr} {told : V → Hp → VK → Prop} {p1 p2 : Pos}
    (I : Inv X pins σ H s) (hgu : X.A.guards = some []) (hr : Room (k + 1) (cxOf CX0 X.prog X.w X.K X.mg X.base Ng qg sg g cdg X.A X.stack s H E0).nox.A) (ha : PA (cxOf CX0 X.prog X.w X.K X.mg X.base Ng qg sg g cdg X.A X.stack s H E0).nox [e] ta)
    (hN : Ng[i]? = some a) (hv : Vis sg a) (hd : (a == ("__debug__" : Str)) = false := by decide) (hcd : (a == ("__classdict__" : Str)) = false := by decide)
    (he : starEach [e] (cxOf CX0 X.prog X.w X.K X.mg X.base Ng qg sg g cdg X.A X.stack s H E0).nox.env = (false, eval e (cxOf CX0 X.prog X.w X.K X.mg X.base Ng qg sg g cdg X.A X.stack s H E0).nox.env) :: starEach [] (cxOf CX0 X.prog X.w X.K X.mg X.base Ng qg sg g cdg X.A X.stack s H E0).nox.env := by rfl) :
    PE (cxOf CX0 X.prog X.w X.K X.mg X.base Ng qg sg g cdg X.A X.stack s H E0).nox (.Call (.Name a p1) [e] [] p2)
      (fun σZ HZ Q => σZ[i]? = some (some (.ref f)) ∧ Callee X σ f HZ k told ∧ ta σZ HZ fun vs H1 => ∃ v, vs = [v] ∧ Callee X σ f H1 k told ∧ told v H1 Q) := by
  refine ⟨fun pinsZ sZ σZ HZ Q IZ h => ?_⟩
  obtain ⟨hs, hc0, ht⟩ := h
  refine wpAny_Call_Name_kw (thn ((pe_var (pos := p1) (i := i) hN hv hd hcd).run pinsZ sZ σZ HZ (fun v H1 => v = .ref f ∧ H1 = HZ) IZ ⟨.ref f, hs, rfl, rfl⟩) fun u s1 ⟨v, H1, I1, r1, ev, eH⟩ => ?_)
  subst ev eH
  obtain rfl : u = Value.ref f := r1
  have isF : ∀ {H2 : Hp} {s2 : Shared}, HOk X.prog X.w H2 s2.heap → Callee X σ f H2 k told → PySem.W.FnAt f s2.heap := fun {H2 s2} hok C => by
    obtain ⟨params, body, scope, par, c', tb, _, _, hf, _⟩ := C
    obtain ⟨⟨pm, ctv, e⟩, _⟩ := hok f _ hf
    exact ⟨_, _, _, _, e⟩
  refine PySem.W.callWith_F (isF I1.hok hc0) (thn (ha.run p2 pinsZ s1 σZ H1 _ I1 ht) fun us s2 ⟨vs, H2, I2, rv, w, ew, C, q⟩ => ⟨isF I2.hok C, ?_⟩) he rfl
  subst ew
  obtain ⟨u, rfl, ru⟩ := vals1 rv
  obtain ⟨params, body, scope, par, c', tb, L, np, hf, hc, hb, hbody, himp⟩ := C
  obtain ⟨⟨pm, ctv, of2⟩, _⟩ := I2.hok f _ hf
  obtain ⟨⟨oc, vs, t, hoc, hdc, hvc⟩, _, _⟩ := I2.hok c' _ hc
  have un : Un (frs X.stack) [] H H2 s.heap s2.heap := I2.base
  have rc : codeAny (model X.prog X.w) (X.A.deeper (envOfC qg sg s.heap.objs.size g cdg)) (.call (.ref f) ⟨[u], []⟩) (CR CX0 (envOfC qg sg s.heap.objs.size g cdg :: X.stack) X.prog X.w H2 s2 Q E0) s2 := by
    refine PySem.W.kla_callFunE (hr.depth) of2 rfl L.co L.gen rfl ⟨c', oc, vs, t, rfl, hoc, hdc, hvc⟩ ?_
    rw [hb]
    refine wpAny_pure (wpAny_newFunctionEnv L.cell (fun y hy => ?_) (fun h₁ hns hsb => ⟨I2.nolimit.fresh _ hsb, ?_⟩) L.kind)
    · rw [List.mem_singleton.mp hy]
      exact L.mine
    · show codeAny _ _ (.expr body (lamEnv X scope s2.heap.objs.size f c')) _ _
      have kp : ∀ b o, s2.heap.get? b = some o → h₁.get? b = some o := fun b o e => hsb.extBut b o (Nat.ne_of_lt (Heap.lt_size e)) (Heap.get?_push_of_some _ e)
      have J := lam_start1 (A := X.A.deeper (envOfC qg sg s.heap.objs.size g cdg)) (outer := envOfC qg sg s.heap.objs.size g cdg :: X.stack) (f := f) (c' := c') (tk := s2.toks + ([(par, u)] : List (Str × Value)).length) I L np I2.env0 hr.hd un ru hns kp
      refine PySem.W.kla_codeExpr (wpAny_mono ((hbody (X.A.deeper (envOfC qg sg s.heap.objs.size g cdg)) _ s2 H2 hgu (hr.deeper _)).run [] _ _ H2 Q J (himp _ _ _ q)) (fun v s' hq => ?_) fun e s' hq => False.elim hq)
      obtain ⟨w', H', J', rv', q'⟩ := hq
      exact ⟨w', H', J'.os, J'.bare, J'.base, J'.hok, rv', q'⟩
  refine wpAny_call (codeAny_mono rc fun r s' hq => ?_)
  match r, hq with
  | .error e, hq => exact pass0 pinsZ σZ H2 s2 e s' I2 hq
  | .ok (.ret u), hq => exact I2.after hq
end
end Fg
set_option Elab.async false
set_option linter.all false
set_option maxRecDepth 100000
set_option maxHeartbeats 2000000
/-! D17: two checks told of the same papers. -/
namespace Fg
open PySem PySem.Spec PyProof.Rows L2 LamX
theorem Deck.off {H : Hp} {a c : Addr} {B : Int} (d : Deck H a c B) {p : Addr} {o : HO} (ha : a ≠ p) (hc : c ≠ p) : Deck (L2.upd H p o) a c B := ⟨d.ne, by
  obtain ⟨cs, seed, n, h1, h2, h3, h4, h5⟩ := d.st
  exact ⟨cs, seed, n, by rw [upd_ne ha]; exact h1, by rw [upd_ne hc]; exact h2, h3, h4, h5⟩⟩
mutual
/-- more lists are excepted: they stood not yet -/
theorem Rep.wide {C : Addr} {M N : Addr → Prop} {H : Hp} (hn : ∀ p, N p → ¬ M p → H p = none) : ∀ {v : V} {d : D}, Rep C M H v d → Rep C N H v d
  | v, .non, h => by unfold Rep at *; exact h
  | v, .bl _, h => by unfold Rep at *; exact h
  | v, .int _, h => by unfold Rep at *; exact h
  | v, .str _, h => by unfold Rep at *; exact h
  | v, .num _, h => by unfold Rep at *; exact h
  | v, .dic, h => by unfold Rep at *; exact h
  | v, .tup ds, h => by
    unfold Rep at *
    obtain ⟨p, vs, e, g, r⟩ := h
    exact ⟨p, vs, e, g, Reps.wide hn r⟩
  | v, .lst ds, h => by
    unfold Rep at *
    obtain ⟨p, vs, e, n, g, r⟩ := h
    refine ⟨p, vs, e, fun q => ?_, g, Reps.wide hn r⟩
    have := hn p q n
    rw [g] at this
    cases this
theorem Reps.wide {C : Addr} {M N : Addr → Prop} {H : Hp} (hn : ∀ p, N p → ¬ M p → H p = none) : ∀ {vs : List V} {ds : List D}, Reps C M H vs ds → Reps C N H vs ds
  | [], [], h => reps_nil
  | v :: vs, d :: ds, h => reps_cons.mpr ⟨Rep.wide hn (reps_cons.mp h).1, Reps.wide hn (reps_cons.mp h).2⟩
end
/-- told at M: whatever datum it is asked about, it says what Bf says -/
def Says (K : PySem.W.Frag) (M : Addr → Prop) (H : Hp) (told : V → Hp → VK → Prop) (Bf : D → Bool) : Prop :=
  ∀ (N : Addr → Prop) (H' : Hp) (v : V) (d : D) (Q : VK), Keep M H H' → Rep (CN K) N H' v d → Fine 400 d → D.dep d ≤ 20 → D.wt d ≤ sizeLine → (∀ H2, Same H' H2 → Q (.bl (Bf d)) H2) → told v H' Q
def RightSp (X : Cx) (σ : L2.St) : Sp := fun vs H Q _ => ∃ (a c : Addr) (M : Addr → Prop) (B : Int) (sp : Addr) (bs : List Bool) (good other : V) (f1 f2 : Addr) (d e : D) (told due : V → Hp → VK → Prop) (Bf : D → Bool),
  vs = [.ref a, .ref sp, good, other, .ref f1, .ref f2] ∧ Deck H a c B ∧ (∀ p, DM a c p → M p) ∧ Lsts M H ∧ B ≤ 2 ^ 50 ∧ H sp = some (.lst (bs.map V.bl)) ∧ ¬ M sp ∧ bs.length ≤ 10 ∧ Rep (CN X.K) M H good d ∧ Rep (CN X.K) M H other e ∧
  Fine 330 d ∧ Fine 330 e ∧ D.wt d ≤ 100000 ∧ D.wt e ≤ 100000 ∧ D.dep d ≤ 2 ∧ D.dep e ≤ 2 ∧ Callee X σ f1 H 21 told ∧ Callee X σ f2 H 21 due ∧ Says X.K M H told Bf ∧ Says X.K M H due Bf ∧ Bf d = true ∧
  ∀ H', Keep M H H' → Deck H' a c (B + 1000) → Q (.bl true) H'
theorem sc_law_right : FnScope ["_law_deck_here", "_law_spoils", "_law_good", "_law_other", "_law_told", "_law_due", "_law_things", "_law_twice", "_law_bad", "_law_thing", "_law_kept"] ["_law_deck_here", "_law_spoils", "_law_good", "_law_other", "_law_told", "_law_due"] (defScope s_law_right) := ⟨rfl, rfl, rfl, by decide +kernel, rfl, by decide +kernel, by decide +kernel⟩
section
variable {X : Cx}
theorem right_body (T : Tx X.w X.K X.mg) {pins : List (Addr × Obj)} {σ : L2.St} {H : Hp} {s : Shared} {vs : List V} {Q : VK} {g : Addr} {cdv : Value} (I : Inv X pins σ H s) (hgu : X.A.guards = some [])
    (hr : Room 25 (cxOf CX0 X.prog X.w X.K X.mg X.base ["_law_deck_here", "_law_spoils", "_law_good", "_law_other", "_law_told", "_law_due", "_law_things", "_law_twice", "_law_bad", "_law_thing", "_law_kept"] "_law_right" (defScope s_law_right) g cdv X.A X.stack s H E0).nox.A) (h : RightSp X σ vs H Q E0) :
    ∃ t, PSs (cxOf CX0 X.prog X.w X.K X.mg X.base ["_law_deck_here", "_law_spoils", "_law_good", "_law_other", "_law_told", "_law_due", "_law_things", "_law_twice", "_law_bad", "_law_thing", "_law_kept"] "_law_right" (defScope s_law_right) g cdv X.A X.stack s H E0).nox (defBody s_law_right) t ∧
      t { nx := fun _ H' => Q .non H', rt := Q } (L2.start ["_law_deck_here", "_law_spoils", "_law_good", "_law_other", "_law_told", "_law_due", "_law_things", "_law_twice", "_law_bad", "_law_thing", "_law_kept"] vs) H := by
  obtain ⟨a, c, M, B, sp, bs, good, other, f1, f2, d, e, told, due, Bf, rfl, hdk, dm, lm, hB, hsp, nsp, lbs, hgd, hot, fd, fe, wd, we, kd, ke, c1, c2, y1, y2, hBf, hQ⟩ := h
  refine ⟨_, (pss_cons (ps_set (i := 6) sc_law_right.nd rfl (Or.inl rfl) (pe_lst (pa_cons (pv 2) pa_nil)))
      (pss_cons (ps_for PassesOwn.never rfl (pi_list (pv 1)) (pg_name (i := 7) sc_law_right.nd rfl (Or.inl rfl)) (pss_cons (ps_set (i := 8) sc_law_right.nd rfl (Or.inl rfl) (pe_d (ok_law_spoilt T 3) (hr.mono (by decide)) (pa_cons (pv 0) (pa_cons (pv 2) (pa_cons (pv 3) pa_nil)))))
      (pss_cons (ps_moS (ps_if (pt_val (pv 7)) (pss_one (ps_set (i := 8) sc_law_right.nd rfl (Or.inl rfl) (pe_d (ok_law_spoilt T 7) (hr.mono (by decide)) (pa_cons (pv 0) (pa_cons (pv 8) (pa_cons (pv 3) pa_nil)))))) pss_nil))
      (pss_one (ps_expr (pe_bm PySem.F.plainAttrs_list PySem.F.slot_list_append PySem.F.type_list_append mt_append (pv 6) (pa_cons (pv 8) pa_nil)))))))
      (pss_cons (ps_for PassesOwn.never rfl (pi_list (pe_op op_cat (pv 6) (pe_lst (pa_cons (pv 3) (pa_cons (pv 2) pa_nil))))) (pg_name (i := 9) sc_law_right.nd rfl (Or.inl rfl)) (pss_cons (ps_set (i := 10) sc_law_right.nd rfl (Or.inl rfl) (pe_callB (call_repr T hgu (hr.mono (by decide))) (by rfl) T.n_repr (by decide +kernel) (pa_cons (pv 9) pa_nil)))
      (pss_one (ps_if (PW.pt (pw_or (pt_cmpR op_ne (pe_callB (call_repr T hgu (hr.mono (by decide))) (by rfl) T.n_repr (by decide +kernel) (pa_cons (pe_told (k := 21) (i := 4) (f := f1) (told := told) I hgu (hr.mono (by decide)) (pa_cons (pv 9) pa_nil) rfl (Or.inl (by decide +kernel))) pa_nil)) (pe_callB (call_repr T hgu (hr.mono (by decide))) (by rfl) T.n_repr (by decide +kernel) (pa_cons (pe_told (k := 21) (i := 5) (f := f2) (told := due) I hgu (hr.mono (by decide)) (pa_cons (pv 9) pa_nil) rfl (Or.inl (by decide +kernel))) pa_nil)) (nomark _)) (pw_or1 (pt_cmpR op_ne (pe_callB (call_repr T hgu (hr.mono (by decide))) (by rfl) T.n_repr (by decide +kernel) (pa_cons (pv 9) pa_nil)) (pv 10) (nomark _))))) (pss_one (ps_ret pe_bl)) pss_nil))))
      (pss_one (ps_ret (pe_cmpR op_isBl (pe_told (k := 21) (i := 4) (f := f1) (told := told) I hgu (hr.mono (by decide)) (pa_cons (pv 2) pa_nil) rfl (Or.inl (by decide +kernel))) pe_bl (nomark _))))))), ?_⟩
  refine ⟨_, rfl, by show 1 ≤ sizeLine; decide, fun L nL => ?_⟩
  have sL := Same.upd (o := .lst [good]) nL
  have nLM : ¬ M L := lsF lm nL
  have aL : a ≠ L := fun z => nLM (dm L (.inl z.symm))
  have cL : c ≠ L := fun z => nLM (dm L (.inr z.symm))
  obtain ⟨M2, hM2⟩ : ∃ M2 : Addr → Prop, ∀ p, M2 p ↔ (M p ∨ p = L) := ⟨fun p => M p ∨ p = L, fun _ => Iff.rfl⟩
  have w2 : ∀ p, M2 p → ¬ M p → H p = none := fun p h1 h2 => by
    rcases (hM2 p).mp h1 with h1 | h1
    · exact absurd h1 h2
    · rw [h1]; exact nL
  have hgL : Rep (CN X.K) M2 (upd H L (.lst [good])) good d := (Rep.wide w2 hgd).same sL
  have hoL : Rep (CN X.K) M2 (upd H L (.lst [good])) other e := (Rep.wide w2 hot).same sL
  have lL : Lsts M2 (upd H L (.lst [good])) := fun p h => by
    rcases (hM2 p).mp h with h | h
    · exact lsS lm sL p h
    · rw [h]; exact ⟨_, upd_same⟩
  have dm2 : ∀ p, DM a c p → M2 p := fun p h => (hM2 p).mpr (.inl (dm p h))
  have toM : ∀ {H' : Hp}, Keep M2 (upd H L (.lst [good])) H' → Keep M H H' := fun k b o e n => k b o (sL b o e) fun z => by
    rcases (hM2 b).mp z with z | z
    · exact n z
    · rw [z, nL] at e
      cases e
  have mL : M2 L := (hM2 L).mpr (.inr rfl)
  have dkL := hdk.same sL
  have ns2 : ¬ M2 sp := fun z => by
    rcases (hM2 sp).mp z with z | z
    · exact nsp z
    · rw [z, nL] at hsp
      cases hsp
  have hspL := sL _ _ hsp
  have gL0 : upd H L (.lst [good]) L = some (.lst [good]) := upd_same
  clear w2
  generalize upd H L (.lst [good]) = HL at *
  refine ⟨_, rfl, sp, rfl, ⟨_, SqL.of hspL⟩, for_list (K := X.K) (a := sp) (xs := bs.map V.bl) (fun i σ' H' => ∃ (xs : List V) (z1 z2 : Option V), σ' = [some (.ref a), some (.ref sp), some good, some other, some (.ref f1), some (.ref f2), some (.ref L), z1, z2, none, none] ∧
    H' L = some (.lst xs) ∧ Keep M2 HL H' ∧ Lsts M2 H' ∧ Deck H' a c (B + 40 * (i : Int)) ∧ xs.length = i + 1 ∧ ∀ v ∈ xs, Okd (CN X.K) M2 340 2000000 20 H' v) ?_ ?_ ?_ ?_⟩
  · refine ⟨[good], none, none, rfl, gL0, Keep.refl, lL, dkL.more (by omega), rfl, fun v hv => ?_⟩
    rw [List.mem_singleton.mp hv]
    exact ⟨d, hgL, fd.more (by decide), by omega, by omega⟩
  · rintro i σ' H' hi ⟨xs, z1, z2, rfl, gL, kp, lp, dk, hlx, hall⟩
    exact SqL.of (kp _ _ hspL ns2)
  · rintro i x σ' H' hi ⟨xs, z1, z2, rfl, gL, kp, lp, dk, hlx, hall⟩
    have hib : i < 10 := by
      have := (List.getElem?_eq_some_iff.mp hi).1
      rw [List.length_map] at this
      omega
    obtain ⟨b, rfl⟩ : ∃ b, x = V.bl b := by
      have := List.mem_of_getElem? hi
      obtain ⟨b, _, e⟩ := List.mem_map.mp this
      exact ⟨b, e.symm⟩
    refine ⟨_, rfl, _, rfl, _, rfl, a, c, M2, B + 40 * (i : Int), good, other, d, e, 330, 100000, 100000, 2, rfl, dk, dm2, lp, by omega, hgL.keep kp lL, hoL.keep kp lL, by decide, by decide, fd, fe, wd, we, by decide, by omega, ke, fun u H1 k1 d1 q1 => ?_⟩
    have kp1 := kp.trans (kM dm2 k1)
    have lp1 := lsK lp k1 d1
    have gL1 : H1 L = some (.lst xs) := k1 _ _ gL fun z => z.elim (fun z => aL z.symm) (fun z => cL z.symm)
    have hall1 : ∀ v ∈ xs, Okd (CN X.K) M2 340 2000000 20 H1 v := fun v hv => (hall v hv).keep (kM dm2 k1) lp
    refine ⟨fun σ'' H'' => ∃ u', σ'' = [some (.ref a), some (.ref sp), some good, some other, some (.ref f1), some (.ref f2), some (.ref L), some (.bl b), some u', none, none] ∧ Keep M2 HL H'' ∧ Lsts M2 H'' ∧ H'' L = some (.lst xs) ∧ Deck H'' a c (B + 40 * (i : Int) + 30) ∧ (∀ v ∈ xs, Okd (CN X.K) M2 340 2000000 20 H'' v) ∧ Okd (CN X.K) M2 340 2000000 20 H'' u', ?_, ?_⟩
    · refine ⟨_, rfl, _, rfl, ?_⟩
      obtain ⟨du, ru, fu, wu, ku⟩ := q1
      cases b with
      | false => exact iteF ⟨u, rfl, kp1, lp1, gL1, d1.more (by omega), hall1, ⟨du, ru, fu.more (by decide), by omega, by omega⟩⟩
      | true =>
        refine iteT ⟨_, rfl, _, rfl, _, rfl, a, c, M2, _, u, other, du, e, 334, 430000, 100000, 2, rfl, d1, dm2, lp1, by omega, ru, hoL.keep kp1 lL, by decide, by decide, fu, fe.more (by decide), by omega, we, by decide, by omega, ke, fun u2 H2 k2 d2 q2 => ?_⟩
        obtain ⟨dv, rv, fv, wv, kv⟩ := q2
        exact ⟨u2, rfl, kp1.trans (kM dm2 k2), lsK lp1 k2 d2, k2 _ _ gL1 fun z => z.elim (fun z => aL z.symm) (fun z => cL z.symm), d2.more (by omega), fun v hv => (hall1 v hv).keep (kM dm2 k2) lp1, ⟨dv, rv, fv.more (by decide), by omega, by omega⟩⟩
    · rintro σ'' H'' ⟨u', rfl, kp2, lp2, gL2, d2, hall2, ou⟩
      refine ⟨_, rfl, .inl ⟨rfl, _, SqL.of gL2⟩, _, rfl, L, xs, u', rfl, rfl, gL2, by rw [hlx]; exact Nat.lt_of_lt_of_le (show i + 1 < 100 by omega) (by decide), ?_⟩
      have kU : Keep M2 H'' (upd H'' L (.lst (xs ++ [u']))) := fun b o eb n => by
        rw [upd_ne (fun z => n (by rw [z]; exact mL))]
        exact eb
      have lU : Lsts M2 (upd H'' L (.lst (xs ++ [u']))) := fun p hp => by
        by_cases q : p = L
        · rw [q]; exact ⟨_, upd_same⟩
        · rw [upd_ne q]; exact lp2 p hp
      refine ⟨xs ++ [u'], _, _, rfl, upd_same, kp2.trans kU, lU, (d2.off aL cL).more (by omega), by rw [List.length_append, hlx]; rfl, fun v hv => ?_⟩
      rcases List.mem_append.mp hv with hv | hv
      · exact (hall2 v hv).keep kU lp2
      · rw [List.mem_singleton.mp hv]
        exact ou.keep kU lp2
  · rintro σ' H' ⟨xs, z1, z2, rfl, gL, kp, lp, dk, hlx, hall⟩
    rw [List.length_map] at hlx dk
    refine ⟨_, rfl, _, rfl, _, rfl, by show 2 ≤ sizeLine; decide, fun Lb nb => ⟨L, Lb, xs, _, rfl, rfl, Same.upd nb _ _ gL, upd_same, ?_, fun L2 n2 => ?_⟩⟩
    · show xs.length + 2 ≤ sizeLine
      rw [hlx]
      exact Nat.le_trans (show bs.length + 1 + 2 ≤ 100 by omega) (by decide)
    have s2 := Same.upd (o := .lst [other, good]) nb
    have s3 := Same.upd (o := .lst (xs ++ [other, good])) n2
    have s4 := s2.trans s3
    have k4 := kp.trans (Keep.ofSame (M := M2) s4)
    have l4 := lsS lp s4
    have d4 := dk.same s4
    have all4 : ∀ v ∈ xs ++ [other, good], Okd (CN X.K) M2 340 2000000 20 (upd (upd H' Lb (.lst [other, good])) L2 (.lst (xs ++ [other, good]))) v := fun v hv => by
      simp only [List.mem_append, List.mem_cons, List.not_mem_nil, or_false] at hv
      rcases hv with hv | hv | hv
      · exact (hall v hv).same s4
      · rw [hv]; exact ⟨e, hoL.keep k4 lL, fe.more (by decide), by omega, by omega⟩
      · rw [hv]; exact ⟨d, hgL.keep k4 lL, fd.more (by decide), by omega, by omega⟩
    have g4 : upd (upd H' Lb (.lst [other, good])) L2 (.lst (xs ++ [other, good])) L2 = some (.lst (xs ++ [other, good])) := upd_same
    generalize upd (upd H' Lb (.lst [other, good])) L2 (.lst (xs ++ [other, good])) = H4 at *
    generalize xs ++ [other, good] = ys at *
    have ne0 : ∀ x : V, (!decide (x = x)) = false := fun x => by rw [decide_eq_true rfl]; rfl
    have rbl : ∀ {H'' : Hp} {b : Bool}, Rep (CN X.K) M H'' (.bl b) (.bl b) := by intros; unfold Rep; rfl
    refine ⟨L2, rfl, ⟨_, SqL.of g4⟩, for_list (K := X.K) (a := L2) (xs := ys) (fun i σ' H' => ∃ (z3 z4 : Option V), σ' = [some (.ref a), some (.ref sp), some good, some other, some (.ref f1), some (.ref f2), some (.ref L), z1, z2, z3, z4] ∧ Same H4 H') ?_ ?_ ?_ ?_⟩
    · exact ⟨none, none, rfl, Same.refl _⟩
    · rintro i σ' H' hi ⟨z3, z4, rfl, s5⟩
      exact SqL.of (s5 _ _ g4)
    · rintro i x σ' H' hi ⟨z3, z4, rfl, s5⟩
      obtain ⟨dx, rx, fx, wx, kx⟩ := (all4 x (List.mem_of_getElem? hi)).same s5
      have kM4 : Keep M H H' := toM (k4.trans (Keep.ofSame s5))
      refine ⟨_, rfl, M2, x, dx, rfl, rx, fx.more (by decide), kx, Nat.le_trans wx (by decide), ?_⟩
      refine ⟨rfl, c1.keep kM4 lm, _, rfl, x, rfl, c1.keep kM4 lm, y1 M2 H' x dx _ kM4 rx (fx.more (by decide)) kx (Nat.le_trans wx (by decide)) fun H5 s6 => ?_⟩
      have kM5 : Keep M H H5 := kM4.trans (Keep.ofSame s6)
      refine ⟨M, _, .bl (Bf dx), rfl, rbl, trivial, by unfold D.dep; decide, by show 10 ≤ sizeLine; decide, ?_⟩
      refine ⟨rfl, c2.keep kM5 lm, _, rfl, x, rfl, c2.keep kM5 lm, y2 M2 H5 x dx _ kM5 (rx.same s6) (fx.more (by decide)) kx (Nat.le_trans wx (by decide)) fun H6 s7 => ?_⟩
      refine ⟨M, _, .bl (Bf dx), rfl, rbl, trivial, by unfold D.dep; decide, by show 10 ≤ sizeLine; decide, rfl, _, rfl, ?_⟩
      rw [ne0]
      refine iteF ⟨_, rfl, M2, x, dx, rfl, (rx.same s6).same s7, fx.more (by decide), kx, Nat.le_trans wx (by decide), _, rfl, rfl, _, rfl, ?_⟩
      rw [ne0]
      exact iteF ⟨_, _, rfl, (s5.trans s6).trans s7⟩
    · rintro σ' H' ⟨z3, z4, rfl, s5⟩
      have kM4 : Keep M H H' := toM (k4.trans (Keep.ofSame s5))
      refine ⟨rfl, c1.keep kM4 lm, _, rfl, good, rfl, c1.keep kM4 lm, y1 M H' good d _ kM4 (hgd.keep kM4 lm) (fd.more (by decide)) (by omega) (Nat.le_trans wd (by decide)) fun H5 s6 => ?_⟩
      rw [hBf]
      exact ⟨true, true, rfl, rfl, hQ H5 (kM4.trans (Keep.ofSame s6)) (((d4.same s5).same s6).more (by omega))⟩
/-- the same, shut: no question looks into it -/
structure RightW (X : Cx) (σ : L2.St) (vs : List V) (H : Hp) (Q : VK) : Prop where
  sp : RightSp X σ vs H Q E0
/-- _law_right(..) -/
theorem pe_right (T : Tx X.w X.K X.mg) (hgu : X.A.guards = some []) (hr : Room 26 X.A) {e : Expr} {es : List Expr} {t : TA} {p pos : Pos} (ha : PA X (e :: es) t) (hg : Gl X "_law_right" := by rfl)
    (he : starEach (e :: es) X.env = (false, eval e X.env) :: starEach es X.env := by rfl) (hpl : (backTo pos (starEach es X.env)).any (·.1) = false := by rfl) :
    PE X (.Call (.Name "_law_right" p) (e :: es) [] pos) (fun σ H Q => t σ H fun vs H1 => RightW X σ vs H1 Q) := by
  obtain ⟨fd, F⟩ := T.q_law_right
  have kp := F.kp
  have bd : Binds X.K fd ["_law_deck_here", "_law_spoils", "_law_good", "_law_other", "_law_told", "_law_due"] [] := F.bindsN (fun _ _ _ _ _ _ us hl => match us, hl with | [_, _, _, _, _, _], _ => rfl)
  obtain ⟨oc, od, dV, kV, doc, pm, an, cdv, ct, osl, rfl, lk, hcd, _, _⟩ := F.ex
  refine ⟨fun pins s σ H Q I h => wpAny_Call_Name_kw (ld_glob I hg T.g_law_right ?_ (by decide))⟩
  refine PySem.W.callWith_K (h₀ := X.base) I.ok.mod.kin kp (thn (ha.run pos pins s σ H _ I h) fun us s1 ⟨vs, H1, I1, r, ⟨q⟩⟩ => ⟨I1.kIn, ?_⟩) he hpl
  have hl : vs.length = 6 := by
    obtain ⟨a, c, M, B, sp, bs, good, other, f1, f2, d, e, told, due, Bf, rfl, _⟩ := q
    rfl
  have hbt := bd s1 us I1.kIn (by rw [List.append_nil, ← r.length]; exact hl)
  rw [List.append_nil] at hbt
  have rc := run_ofS (Q := Q) (E := E0) lk hcd sc_law_right hr I1.env0 hbt r hl fun hr' => let ⟨t, a, b⟩ := right_body T I1 hgu hr' q; ⟨t, a.nox, b⟩
  refine wpAny_call (codeAny_mono rc fun r' s' hq => ?_)
  match r', hq with
  | .error e, hq => exact pass0 pins σ H1 s1 e s' I1 hq
  | .ok (.ret u), hq => exact I1.after hq
end
end Fg
set_option Elab.async false
set_option linter.all false
set_option maxRecDepth 100000
set_option maxHeartbeats 1000000
/-! D19: the papers that the package gives stand the checks. -/
namespace Fg
open PySem PySem.Spec PyProof.Rows L2
theorem wts_ints : ∀ cs : List Int, D.wts (cs.map D.int) = 2002 * cs.length
  | [] => rfl
  | c :: r => by
    have e : D.wt (.int c) = 2000 := by simp only [D.wt]
    rw [List.map_cons, wts_cons, wts_ints r, e, List.length_cons]
    omega
theorem deps_ints : ∀ cs : List Int, D.deps (cs.map D.int) = 0
  | [] => rfl
  | c :: r => by
    have e : D.dep (.int c) = 0 := by simp only [D.dep]
    rw [List.map_cons, deps_cons, deps_ints r, e]
    rfl
theorem fines_ints {n : Nat} : ∀ {cs : List Int}, (∀ c ∈ cs, Bd n c) → Fines n (cs.map D.int)
  | [], _ => by unfold List.map Fines; trivial
  | c :: r, h => by
    rw [List.map_cons]
    unfold Fines Fine
    exact ⟨h c (List.mem_cons_self ..), fines_ints fun x hx => h x (List.mem_cons_of_mem _ hx)⟩
theorem reps_ints {C : Addr} {M : Addr → Prop} {H : Hp} : ∀ cs : List Int, Reps C M H (cs.map V.int) (cs.map D.int)
  | [] => reps_nil
  | c :: r => reps_cons.mpr ⟨rep_int_of, reps_ints r⟩
/-- a paper that the check takes -/
def GoodAt (C : Addr) (M : Addr → Prop) (H : Hp) (v : V) (Bf : D → Bool) : Prop := ∃ d, Rep C M H v d ∧ Bf d = true ∧ Fine 330 d ∧ D.wt d ≤ 100000 ∧ D.dep d ≤ 2
theorem good_round {C : Addr} {M : Addr → Prop} {H : Hp} {a : Addr} {x : Rat} {z : Way} (e : H a = some (.tup [.int x.floor, .int (hiN x), .int (cnt z x)])) (sx : Sz 300 x) : GoodAt C M H (.ref a) (roundB x z) := by
  refine ⟨.tup [.int x.floor, .int (hiN x), .int (cnt z x)], ?_, ?_, ?_, ?_, ?_⟩
  · unfold Rep
    exact ⟨a, _, rfl, e, reps_cons.mpr ⟨rep_int_of, reps_cons.mpr ⟨rep_int_of, reps_cons.mpr ⟨rep_int_of, reps_nil⟩⟩⟩⟩
  · rw [roundB_tup]
    simp
  · simp only [Fine, Fines]
    refine ⟨sx.floor.mono (by decide), ?_, (sx.cnt (by decide)).mono (by decide), trivial⟩
    unfold hiN
    split
    · exact sx.floor.mono (by decide)
    · exact (sx.floor.add (show Bd 300 1 by unfold Bd; decide)).mono (by decide)
  · simp only [D.wt, D.wts]
    decide
  · simp only [D.dep, D.deps]
    decide
theorem put_bd {x t : Rat} {c : Int} (h : putOk x c t = true) : c = x.floor ∨ c = x.floor + 1 := by
  unfold putOk at h
  split at h
  · exact .inl ‹_›
  · rw [Bool.and_eq_true] at h
    exact .inr (of_decide_eq_true h.1)
theorem good_sum {C : Addr} {M : Addr → Prop} {H : Hp} {a : Addr} {qs : List Rat} {s : Rat} (h : SumAt C H a (qs.map (· / s))) (pq : Parts qs) (ss : Sz 100 s) (s0 : 0 < s) : GoodAt C M H (.ref a) (sumB (qs.map (· / s))) := by
  obtain ⟨b, v, cs, t, ea, eb, nv, g, st⟩ := h
  have few := pq.few
  have hlen := g.len
  rw [List.length_map] at hlen
  refine ⟨.tup [.tup (cs.map D.int), .num t], ?_, ?_, ?_, ?_, ?_⟩
  · unfold Rep
    refine ⟨a, _, rfl, ea, reps_cons.mpr ⟨?_, reps_cons.mpr ⟨?_, reps_nil⟩⟩⟩
    · unfold Rep
      exact ⟨b, _, rfl, eb, reps_ints cs⟩
    · unfold Rep
      exact nv
  · unfold sumB
    simp only [intsOf_map]
    rw [decide_eq_true (by rw [List.length_map]; exact g.len), decide_eq_true g.t0, decide_eq_true g.t1, decide_eq_true g.sum]
    simp only [Bool.true_and]
    rw [List.all_eq_true]
    intro p hp
    obtain ⟨i, hi⟩ := List.getElem?_of_mem hp
    rw [List.getElem?_zip_eq_some] at hi
    exact g.put i _ _ hi.1 hi.2
  · simp only [Fine, Fines]
    refine ⟨fines_ints fun c hc => ?_, st.mono (by decide), trivial⟩
    obtain ⟨i, hi⟩ := List.getElem?_of_mem hc
    have hlt : i < (qs.map (· / s)).length := by
      rw [← g.len]
      exact (List.getElem?_eq_some_iff.mp hi).1
    have hx := List.getElem?_eq_getElem hlt
    have sx : Sz 140 (qs.map (· / s))[i] := by
      rw [List.getElem_map]
      exact (pq.small _ (List.getElem_mem _)).div2 ss s0
    rcases put_bd (g.put i _ _ hx hi) with e | e
    · rw [e]; exact sx.floor.mono (by decide)
    · rw [e]; exact (sx.floor.add (show Bd 140 1 by unfold Bd; decide)).mono (by decide)
  · simp only [D.wt, D.wts, wts_ints]
    omega
  · simp only [D.dep, D.deps, deps_ints]
    decide
theorem near_or {k : Int} {s : Rat} {p : Nat} {c : Int} (h : c ∈ near k s p) : c = (moved k s p).floor ∨ c = (moved k s p).floor + 1 := by
  unfold near at h
  have h := (List.mem_filter.mp h).1
  split at h
  · exact .inl (by simpa using h)
  · simpa using h
theorem moved_sz {k : Int} {s : Rat} {p : Nat} (bk : Bd 30 k) (ss : Sz 45 s) (hp : p ≤ 64) : Sz 295 (moved k s p) := by
  unfold moved
  exact ((Sz.int bk (by decide)).mul2 ss).mul2 (Sz.int (bd_pow hp) (by decide))
theorem good_short {C : Addr} {M : Addr → Prop} {H : Hp} {a : Addr} {k : Int} {s : Rat} (h : ShortAt H a k s) (hs : s ∈ steps11) (bk : Bd 30 k) : GoodAt C M H (.ref a) (shortB k s) := by
  obtain ⟨c, p, sh, h⟩ := h
  obtain ⟨s0, ss, _, _, mp14, _⟩ := steps_ok s hs
  have hp := sh.most
  have bc : Bd 330 c := by
    have sz := moved_sz (p := p) bk ss (by omega)
    rcases near_or sh.mem with e | e
    · rw [e]; exact sz.floor.mono (by decide)
    · rw [e]; exact (sz.floor.add (show Bd 295 1 by unfold Bd; decide)).mono (by decide)
  have bp : Bd 330 (p : Int) := by
    have : Bd 10 (p : Int) := by
      unfold Bd
      show p < 2 ^ 10
      omega
    exact this.mono (by decide)
  have hb := near_back sh.mem
  have e1 : decide ((0 : Int) ≤ (p : Int)) = true := decide_eq_true (by omega)
  have e2 : decide ((p : Int) ≤ (mp s : Int)) = true := decide_eq_true (by omega)
  rcases h with ⟨rfl, ea⟩ | ⟨p0, b, ea, eb⟩
  · refine ⟨.tup [.int c, .int ((0 : Nat) : Int), .non], ?_, ?_, ?_, ?_, ?_⟩
    · unfold Rep
      exact ⟨a, _, rfl, ea, reps_cons.mpr ⟨rep_int_of, reps_cons.mpr ⟨rep_int_of, reps_cons.mpr ⟨by unfold Rep; rfl, reps_nil⟩⟩⟩⟩
    · rw [shortB_eq, e1, e2, Int.toNat_natCast, hb]
      rfl
    · simp only [Fine, Fines]
      exact ⟨bc, bp, trivial, trivial⟩
    · simp only [D.wt, D.wts]
      decide
    · simp only [D.dep, D.deps]
      decide
  · have sz := moved_sz (p := p - 1) bk ss (by omega)
    obtain ⟨ni, b1, b2⟩ := near_none s0 (sh.less p0)
    refine ⟨.tup [.int c, .int (p : Int), .tup [.int (moved k s (p - 1)).floor, .int ((moved k s (p - 1)).floor + 1)]], ?_, ?_, ?_, ?_, ?_⟩
    · unfold Rep
      refine ⟨a, _, rfl, ea, reps_cons.mpr ⟨rep_int_of, reps_cons.mpr ⟨rep_int_of, reps_cons.mpr ⟨?_, reps_nil⟩⟩⟩⟩
      unfold Rep
      exact ⟨b, _, rfl, eb, reps_cons.mpr ⟨rep_int_of, reps_cons.mpr ⟨rep_int_of, reps_nil⟩⟩⟩
    · have hq : (((p : Int)) - 1).toNat = p - 1 := by omega
      rw [shortB_eq, e1, e2, Int.toNat_natCast, hb, if_neg (by omega), hq]
      have n1 : decide (((moved k s (p - 1)).floor : Rat) < moved k s (p - 1)) = true := by
        refine decide_eq_true (Rat.lt_of_le_of_ne (fl_le _) fun e => ?_)
        unfold isI at ni
        rw [decide_eq_true e] at ni
        cases ni
      have n2 : decide (moved k s (p - 1) < (((moved k s (p - 1)).floor + 1 : Int) : Rat)) = true := by
        refine decide_eq_true ?_
        rw [Rat.intCast_add]
        exact fl_lt _
      show (true && (true && (decide ((moved k s (p - 1)).floor + 1 = (moved k s (p - 1)).floor + 1) && (decide (((moved k s (p - 1)).floor : Rat) < moved k s (p - 1)) && decide (moved k s (p - 1) < (((moved k s (p - 1)).floor + 1 : Int) : Rat))) && !(back (moved k s (p - 1)).floor (p - 1) k s || back ((moved k s (p - 1)).floor + 1) (p - 1) k s)))) = true
      rw [n1, n2, b1, b2, decide_eq_true rfl]
      rfl
    · simp only [Fine, Fines]
      exact ⟨bc, bp, ⟨sz.floor.mono (by decide), (sz.floor.add (show Bd 295 1 by unfold Bd; decide)).mono (by decide), trivial⟩, trivial⟩
    · simp only [D.wt, D.wts]
      decide
    · simp only [D.dep, D.deps]
      decide
end Fg
set_option Elab.async false
set_option linter.all false
set_option maxRecDepth 100000
set_option maxHeartbeats 2000000
/-! D20: lambdas of the law; what stays. -/
namespace Fg
open PySem PySem.Spec PyProof.Rows L2 LamX
section
variable {X : Cx}
def tLamO (P : Addr) (env : Env) (params : Arguments) (body : Expr) (scope : Scope) : TE := fun σ H Q => Tabs [(P, env.qual ++ "<lambda>")] H ∧ ∀ (f c' : Addr) (H1 : Hp), ExtN H H1 → (∀ p, H1 p = none → H p = none) → Tabs [(P, env.qual ++ "<lambda>")] H1 → H f = none →
  H1 f = some (LamO env params body scope f c') → H1 c' = some (CodeO c' (env.qual ++ "<lambda>")) → Q (.ref f) H1
theorem pe_lam {c P : Addr} {params : Arguments} {body : Expr} {scope : Scope} {par : Str} {pos : Pos} (TB : TabB X.base X.mg c P) (hcode : X.env.code = .ref c) (L : LamP X.env.scope scope par) (hdef : defaultsOf params X.env = ([], []) := by rfl) :
    PE X (.Lambda params body scope pos) (tLamO P X.env params body scope) :=
  ⟨fun pins s σ H Q I h => lam_made I TB hcode (List.mem_singleton.mpr rfl) (fun p hp _ => by rw [List.mem_singleton.mp hp]) h.1 hdef (L.has I.ok) fun f c' H1 s' I1 ex fr tb nf hf hc => ⟨.ref f, H1, I1, rfl, h.2 f c' H1 ex fr tb nf hf hc⟩⟩
/-- round_paper(e, .., way = k) -/
theorem pe_rp (T : Tx X.w X.K X.mg) (hr : Room 7 X.A) {e : Expr} {es : List Expr} {t : TA} {tk : TA} {kws : List Keyword} {p pos : Pos} (ha : PA X (e :: es) t) (hkw : PK X kws tk) (hg : Gl X "round_paper" := by rfl) (hall : (backToKw pos (keywordEach kws X.env)).all (·.1.isSome) = true := by rfl) (hks : (backToKw pos (keywordEach kws X.env)).filterMap (·.1) = [("way" : Str)] := by rfl)
    (he : starEach (e :: es) X.env = (false, eval e X.env) :: starEach es X.env := by rfl) (hpl : ((backTo pos (starEach (e :: es) X.env)).any (·.1) || (backToKw pos (keywordEach kws X.env)).any (·.1.isNone)) = false := by rfl) :
    PE X (.Call (.Name "round_paper" p) (e :: es) kws pos) (tCallN 2 1 (sp_round_paper X.K) (fun vs zs => vs ++ zs) E0 t tk) := by
  obtain ⟨fd, gm, kp, kb, F⟩ := fn_round_paper T
  exact pe_callN F hr hg gm kp kb pass0 ha hkw hall hks (by decide) he hpl
end
theorem sc_law : FnScope ["_law_script", "_law_deck_here", "_law_rules", "_law_others", "_law_turn", "_law_k", "_law_spoils", "_law_paper", "_law_told", "_law_due", "_law_goods", "_law_grain", "_law_held", "_law_here", "_law_kept", "_law_number_here", "_law_one", "_law_parts", "_law_rule", "_law_some", "_law_step", "_law_there", "_law_part"] ["_law_script"] (defScope s_law) := ⟨rfl, rfl, rfl, by decide +kernel, rfl, by decide +kernel, by decide +kernel⟩
theorem rules_way {z : Int} (h0 : 0 ≤ z) (h1 : z < 8) : ∃ w : Way, atI [V.str "up", V.str "down", V.str "high", V.str "low", V.str "half up", V.str "half down", V.str "half even", V.str "half odd"] z = some (.str w.txt) := by
  have h : z = 0 ∨ z = 1 ∨ z = 2 ∨ z = 3 ∨ z = 4 ∨ z = 5 ∨ z = 6 ∨ z = 7 := by omega
  rcases h with rfl | rfl | rfl | rfl | rfl | rfl | rfl | rfl
  · exact ⟨.up, rfl⟩
  · exact ⟨.down, rfl⟩
  · exact ⟨.high, rfl⟩
  · exact ⟨.low, rfl⟩
  · exact ⟨.hup, rfl⟩
  · exact ⟨.hdown, rfl⟩
  · exact ⟨.heven, rfl⟩
  · exact ⟨.hodd, rfl⟩
theorem Tabs.keep {T : List (Addr × Str)} {M : Addr → Prop} {H H' : Hp} (t : Tabs T H) (k : Keep M H H') (l : Lsts M H) : Tabs T H' := fun p hp => by
  obtain ⟨ps, h1, h2, h3⟩ := t p hp
  refine ⟨ps, k.get l h1 (fun _ z => by cases z), h2, fun pos cv hc => ?_⟩
  obtain ⟨c, e1, e2⟩ := h3 pos cv hc
  exact ⟨c, e1, k.get l e2 codeO_nl⟩
theorem Tabs.off {T : List (Addr × Str)} {H : Hp} {L : Addr} {xs ys : List V} (t : Tabs T H) (e : H L = some (.lst xs)) : Tabs T (L2.upd H L (.lst ys)) := fun p hp => by
  obtain ⟨ps, h1, h2, h3⟩ := t p hp
  refine ⟨ps, ?_, h2, fun pos cv hc => ?_⟩
  · rw [upd_ne (fun z => by rw [z, e] at h1; cases h1)]
    exact h1
  · obtain ⟨c, e1, e2⟩ := h3 pos cv hc
    refine ⟨c, e1, ?_⟩
    rw [upd_ne (fun z => by rw [z, e] at e2; exact codeO_nl _ (Option.some.inj e2).symm)]
    exact e2
theorem lamO_nt {env : Env} {params : Arguments} {body : Expr} {scope : Scope} {f c' : Addr} (ps : Array Value) : LamO env params body scope f c' ≠ .tbl ps := fun z => by
  unfold LamO at z
  cases z
theorem codeO_nt {c : Addr} {q : Str} (ps : Array Value) : CodeO c q ≠ .tbl ps := codeO_ne ps
theorem upd_keep {H : Hp} {a b : Addr} {o u : HO} (e : H a = some u) (n : a ≠ b) : L2.upd H b o a = some u := by
  rw [upd_ne n]
  exact e
theorem extOff {H0 H : Hp} {L : Addr} {o : HO} (x : ExtN H0 H) (n : H0 L = none) : ExtN H0 (L2.upd H L o) := fun b o' e m => by
  rw [upd_ne (ne_of_none e n)]
  exact x b o' e m
theorem Deck.ext {H H' : Hp} {a c : Addr} {B : Int} (d : Deck H a c B) (x : ExtN H H') : Deck H' a c B := ⟨d.ne, let ⟨cs, seed, n, h1, h2, h3, h4, h5⟩ := d.st; ⟨cs, seed, n, x _ _ h1 (fun _ z => by cases z), x _ _ h2 (fun _ z => by cases z), h3, h4, h5⟩⟩
theorem step_facts {s0 s1 : Int} (h : (s0, s1) ∈ stepPairs) : 0 < s0 ∧ 0 < s1 ∧ Bd 60 s0 ∧ Bd 60 s1 := by
  have all : ∀ p ∈ stepPairs, 0 < p.1 ∧ 0 < p.2 ∧ Bd 60 p.1 ∧ Bd 60 p.2 := by unfold Bd; decide
  exact all _ h
theorem kept_at {z : Int} (h0 : 0 ≤ z) (h1 : z < 3) : ∃ n : Int, atI [V.int 0, V.int (10 ^ (6 : Int).toNat), V.int 0] z = some (.int n) ∧ 0 ≤ n ∧ n ≤ 1000000 := by
  have h : z = 0 ∨ z = 1 ∨ z = 2 := by omega
  rcases h with rfl | rfl | rfl
  · exact ⟨0, rfl, by decide, by decide⟩
  · exact ⟨_, rfl, by decide, by decide⟩
  · exact ⟨0, rfl, by decide, by decide⟩

/-! ### what stays: all but lists and tables -/
def Fix (H H' : Hp) : Prop := ∀ b o, H b = some o → (∀ xs, o ≠ .lst xs) → (∀ ps, o ≠ .tbl ps) → H' b = some o
theorem Fix.refl (H : Hp) : Fix H H := fun _ _ e _ _ => e
theorem Fix.trans {H H1 H2 : Hp} (a : Fix H H1) (b : Fix H1 H2) : Fix H H2 := fun c o e n m => b c o (a c o e n m) n m
theorem Fix.same {H H' : Hp} (s : Same H H') : Fix H H' := fun c o e _ _ => s c o e
theorem Fix.keep {M : Addr → Prop} {H H' : Hp} (k : Keep M H H') (l : Lsts M H) : Fix H H' := fun c o e n _ => k.get l e n
theorem Fix.ext {H H' : Hp} (x : ExtN H H') : Fix H H' := fun c o e _ m => x c o e m
theorem Fix.lst {H : Hp} {p : Addr} {xs ys : List V} (e : H p = some (.lst xs)) : Fix H (L2.upd H p (.lst ys)) := fun c o e2 n _ => by
  rw [upd_ne (fun z => n xs (by rw [z, e] at e2; exact (Option.some.inj e2).symm))]
  exact e2
theorem NumV.fix {C : Addr} {H H' : Hp} {v : V} {q : Rat} (h : NumV C H v q) (x : Fix H H') : NumV C H' v q := by
  obtain ⟨a, e, dx, ea⟩ := h
  exact ⟨a, e, dx, x _ _ ea (fun _ z => by cases z) (fun _ z => by cases z)⟩
theorem Pair.fix {H H' : Hp} {v : V} {t b : Int} (h : Pair H v t b) (x : Fix H H') : Pair H' v t b := by
  obtain ⟨p, e, ep⟩ := h
  exact ⟨p, e, x _ _ ep (fun _ z => by cases z) (fun _ z => by cases z)⟩
theorem PairL.fix {H H' : Hp} {vs : List V} {ps : List (Int × Int)} (h : PairL H vs ps) (x : Fix H H') : PairL H' vs ps := ⟨h.1, fun i v p a b => (h.2 i v p a b).fix x⟩
theorem TupN.fix {C : Addr} {H H' : Hp} {v : V} {qs : List Rat} (h : TupN C H v qs) (x : Fix H H') : TupN C H' v qs := by
  obtain ⟨a, vs, e, ea, n1, n2⟩ := h
  exact ⟨a, vs, e, x _ _ ea (fun _ z => by cases z) (fun _ z => by cases z), n1, fun i v q a b => (n2 i v q a b).fix x⟩
mutual
theorem Rep.fix {C : Addr} {H H' : Hp} (x : Fix H H') : ∀ {v : V} {d : D}, Rep C (fun _ => True) H v d → Rep C (fun _ => True) H' v d
  | v, .non, h => by unfold Rep at *; exact h
  | v, .bl _, h => by unfold Rep at *; exact h
  | v, .int _, h => by unfold Rep at *; exact h
  | v, .str _, h => by unfold Rep at *; exact h
  | v, .num _, h => by
    unfold Rep at *
    exact NumV.fix h x
  | v, .dic, h => by
    unfold Rep at *
    obtain ⟨a, e, ea⟩ := h
    exact ⟨a, e, x _ _ ea (fun _ z => by cases z) (fun _ z => by cases z)⟩
  | v, .tup ds, h => by
    unfold Rep at *
    obtain ⟨p, vs, e, g, r⟩ := h
    exact ⟨p, vs, e, x _ _ g (fun _ z => by cases z) (fun _ z => by cases z), Reps.fix x r⟩
  | v, .lst ds, h => by
    unfold Rep at h
    obtain ⟨p, vs, e, n, _⟩ := h
    exact absurd trivial n
theorem Reps.fix {C : Addr} {H H' : Hp} (x : Fix H H') : ∀ {vs : List V} {ds : List D}, Reps C (fun _ => True) H vs ds → Reps C (fun _ => True) H' vs ds
  | [], [], h => reps_nil
  | v :: vs, d :: ds, h => reps_cons.mpr ⟨Rep.fix x (reps_cons.mp h).1, Reps.fix x (reps_cons.mp h).2⟩
end
/-- data without lists, small -/
def Plain (C : Addr) (H : Hp) (v : V) : Prop := ∃ d, Rep C (fun _ => True) H v d ∧ Fine 330 d ∧ D.wt d ≤ 100000 ∧ D.dep d ≤ 2
theorem Plain.fix {C : Addr} {H H' : Hp} {v : V} (h : Plain C H v) (x : Fix H H') : Plain C H' v := let ⟨d, a, b⟩ := h; ⟨d, Rep.fix x a, b⟩
theorem GoodAt.plain {C : Addr} {H : Hp} {v : V} {Bf : D → Bool} (h : GoodAt C (fun _ => True) H v Bf) : Plain C H v := let ⟨d, a, _, b⟩ := h; ⟨d, a, b⟩
theorem GoodAt.fix {C : Addr} {H H' : Hp} {v : V} {Bf : D → Bool} (h : GoodAt C (fun _ => True) H v Bf) (x : Fix H H') : GoodAt C (fun _ => True) H' v Bf := let ⟨d, a, b⟩ := h; ⟨d, Rep.fix x a, b⟩
theorem Rep.less {C : Addr} {M : Addr → Prop} {H : Hp} {v : V} {d : D} (h : Rep C (fun _ => True) H v d) : Rep C M H v d := Rep.wide (fun p _ n => absurd trivial n) h

/-! ### the law's loop: its end -/
def lawFor : List Stmt := match defBody s_law with
  | [_, _, _, .For _ _ b _ _, _] => b
  | _ => []
def lawTail : List Stmt := lawFor.drop 8
def lawTail2 : List Stmt := lawFor.drop 14
end Fg
set_option Elab.async false
set_option linter.all false
set_option maxRecDepth 100000
set_option maxHeartbeats 2000000
/-! D22: the end of the law's loop: the papers, the checks. -/
namespace Fg
open PySem PySem.Spec PyProof.Rows L2 LamX
theorem right_mk {X : Cx} {σ : L2.St} {H : Hp} {dk c0 Ls f1 f2 : Addr} {B : Int} {bs : List Bool} {good other : V} {told due : V → Hp → VK → Prop} {Bf : D → Bool} {Q : VK} (hd : Deck H dk c0 B) (hB : B ≤ 2 ^ 50) (gLs : H Ls = some (.lst (bs.map V.bl))) (nLs : ¬ DM dk c0 Ls) (lbs : bs.length ≤ 10)
    (g : GoodAt (CN X.K) (fun _ => True) H good Bf) (o : Plain (CN X.K) H other) (c1 : Callee X σ f1 H 21 told) (c2 : Callee X σ f2 H 21 due) (y1 : Says X.K (DM dk c0) H told Bf) (y2 : Says X.K (DM dk c0) H due Bf)
    (hQ : ∀ H2, Keep (DM dk c0) H H2 → Deck H2 dk c0 (B + 1000) → Q (.bl true) H2) : RightW X σ [.ref dk, .ref Ls, good, other, .ref f1, .ref f2] H Q := by
  obtain ⟨d, r, hb, f, w, k⟩ := g
  obtain ⟨e, r2, f2', w2, k2⟩ := o
  exact .mk ⟨dk, c0, DM dk c0, B, Ls, bs, good, other, f1, f2, d, e, told, due, Bf, rfl, hd, fun _ h => h, hd.lsts, hB, gLs, nLs, lbs, r.less, r2.less, f, f2', w, w2, k, k2, c1, c2, y1, y2, hb, hQ⟩
section
variable {P : Program} {w : World} {K : PySem.W.Frag} {mg : Str → Option Value} {base : Heap}
theorem law_end (T : Tx w K mg) {A : Around} {outer : List Env} {s : Shared} {H0 : Hp} {E : XK} {fa c Pt : Addr} (hgu : A.guards = some [])
    (hr : Room 29 (A.deeper (envOfC "law" (defScope s_law) s.heap.objs.size fa (.ref c)))) :
    ∃ tt, PSs (cxOf CX0 P w K mg base ["_law_script", "_law_deck_here", "_law_rules", "_law_others", "_law_turn", "_law_k", "_law_spoils", "_law_paper", "_law_told", "_law_due", "_law_goods", "_law_grain", "_law_held", "_law_here", "_law_kept", "_law_number_here", "_law_one", "_law_parts", "_law_rule", "_law_some", "_law_step", "_law_there", "_law_part"] "law" (defScope s_law) fa (.ref c) A outer s H0 E).nox lawTail2 tt ∧
    ∀ (D : Ends) (H : Hp) (a dk c0 Lr Lo Ls Lp pp Lt Ld f1 f2 f3 f4 f5 f6 : Addr) (bs : List Bool) (ws : List V) (prs : List (Int × Int)) (vn vs vg vh vt vhd vo tp o1 o2 o3 : V) (t b s0 s1 g0 g1 kept B : Int) (way : Way) (z4 z5 z10 z22 : Option V),
      Deck H dk c0 B → B ≤ 2 ^ 40 → Tabs [(Pt, (cxOf CX0 P w K mg base ["_law_script", "_law_deck_here", "_law_rules", "_law_others", "_law_turn", "_law_k", "_law_spoils", "_law_paper", "_law_told", "_law_due", "_law_goods", "_law_grain", "_law_held", "_law_here", "_law_kept", "_law_number_here", "_law_one", "_law_parts", "_law_rule", "_law_some", "_law_step", "_law_there", "_law_part"] "law" (defScope s_law) fa (.ref c) A outer s H0 E).nox.env.qual ++ "<lambda>")] H →
      H Lr = some (.lst [.str "up", .str "down", .str "high", .str "low", .str "half up", .str "half down", .str "half even", .str "half odd"]) → H Lo = some (.lst [o1, o2, o3]) → ¬ DM dk c0 Lr → ¬ DM dk c0 Lo → Plain (CN K) H o1 → Plain (CN K) H o2 → Plain (CN K) H o3 →
      H Ls = some (.lst (bs.map V.bl)) → ¬ DM dk c0 Ls → bs.length ≤ 10 → H Lp = some (.lst ws) → ¬ DM dk c0 Lp → PairL H ws prs → PartsP prs →
      Pair H vn t b → NumP t b → Pair H vs s0 s1 → (s0, s1) ∈ stepPairs → Pair H vg g0 g1 → (g0, g1) ∈ stepPairs → Bd 30 kept →
      NumV (CN K) H vh ((s0 : Rat) / (s1 : Rat)) → NumV (CN K) H vt ((g0 : Rat) / (g1 : Rat)) → NumV (CN K) H vhd (((kept * g0 : Int) : Rat) / (g1 : Rat)) → TupN (CN K) H tp (prs.map ratP) → NumV (CN K) H vo ((t : Rat) / (b : Rat)) →
      GoodAt (CN K) (fun _ => True) H (.ref pp) (roundB (rat t b s0 s1) way) →
      H Lt = some (.lst ([.ref f1] ++ [.ref f2] ++ [.ref f3])) → H Ld = some (.lst ([.ref f4] ++ [.ref f5] ++ [.ref f6])) → ¬ DM dk c0 Lt → ¬ DM dk c0 Ld →
      (∀ σ, Callee (cxOf CX0 P w K mg base ["_law_script", "_law_deck_here", "_law_rules", "_law_others", "_law_turn", "_law_k", "_law_spoils", "_law_paper", "_law_told", "_law_due", "_law_goods", "_law_grain", "_law_held", "_law_here", "_law_kept", "_law_number_here", "_law_one", "_law_parts", "_law_rule", "_law_some", "_law_step", "_law_there", "_law_part"] "law" (defScope s_law) fa (.ref c) A outer s H0 E).nox σ f1 H 21 fun v H' Q => tCall (sp_round_holds K) [] E0 (tCons (tVar 16) (tCons (tVar 13) (tCons (tVar 18) (tCons (tVar 23) tNil)))) (σ ++ [some v]) H' Q) →
      (∀ σ, Callee (cxOf CX0 P w K mg base ["_law_script", "_law_deck_here", "_law_rules", "_law_others", "_law_turn", "_law_k", "_law_spoils", "_law_paper", "_law_told", "_law_due", "_law_goods", "_law_grain", "_law_held", "_law_here", "_law_kept", "_law_number_here", "_law_one", "_law_parts", "_law_rule", "_law_some", "_law_step", "_law_there", "_law_part"] "law" (defScope s_law) fa (.ref c) A outer s H0 E).nox σ f2 H 21 fun v H' Q => tCall (sp_short_holds K) [] E0 (tCons (tVar 12) (tCons (tVar 21) (tCons (tVar 23) tNil))) (σ ++ [some v]) H' Q) →
      (∀ σ, Callee (cxOf CX0 P w K mg base ["_law_script", "_law_deck_here", "_law_rules", "_law_others", "_law_turn", "_law_k", "_law_spoils", "_law_paper", "_law_told", "_law_due", "_law_goods", "_law_grain", "_law_held", "_law_here", "_law_kept", "_law_number_here", "_law_one", "_law_parts", "_law_rule", "_law_some", "_law_step", "_law_there", "_law_part"] "law" (defScope s_law) fa (.ref c) A outer s H0 E).nox σ f3 H 21 fun v H' Q => tCall (sp_sum_holds K) [] E0 (tCons (tVar 19) (tCons (tVar 13) (tCons (tVar 23) tNil))) (σ ++ [some v]) H' Q) →
      (∀ σ, Callee (cxOf CX0 P w K mg base ["_law_script", "_law_deck_here", "_law_rules", "_law_others", "_law_turn", "_law_k", "_law_spoils", "_law_paper", "_law_told", "_law_due", "_law_goods", "_law_grain", "_law_held", "_law_here", "_law_kept", "_law_number_here", "_law_one", "_law_parts", "_law_rule", "_law_some", "_law_step", "_law_there", "_law_part"] "law" (defScope s_law) fa (.ref c) A outer s H0 E).nox σ f4 H 21 fun v H' Q => tCall (sp_rdue K) [] E0 (tCons (tVar 15) (tCons (tVar 20) (tCons (tVar 18) (tCons (tVar 23) tNil)))) (σ ++ [some v]) H' Q) →
      (∀ σ, Callee (cxOf CX0 P w K mg base ["_law_script", "_law_deck_here", "_law_rules", "_law_others", "_law_turn", "_law_k", "_law_spoils", "_law_paper", "_law_told", "_law_due", "_law_goods", "_law_grain", "_law_held", "_law_here", "_law_kept", "_law_number_here", "_law_one", "_law_parts", "_law_rule", "_law_some", "_law_step", "_law_there", "_law_part"] "law" (defScope s_law) fa (.ref c) A outer s H0 E).nox σ f5 H 21 fun v H' Q => tCall (sp_short_due K) [] E0 (tCons (tVar 14) (tCons (tVar 11) (tCons (tVar 23) tNil))) (σ ++ [some v]) H' Q) →
      (∀ σ, Callee (cxOf CX0 P w K mg base ["_law_script", "_law_deck_here", "_law_rules", "_law_others", "_law_turn", "_law_k", "_law_spoils", "_law_paper", "_law_told", "_law_due", "_law_goods", "_law_grain", "_law_held", "_law_here", "_law_kept", "_law_number_here", "_law_one", "_law_parts", "_law_rule", "_law_some", "_law_step", "_law_there", "_law_part"] "law" (defScope s_law) fa (.ref c) A outer s H0 E).nox σ f6 H 21 fun v H' Q => tCall (sp_sum_due K) [] E0 (tCons (tVar 17) (tCons (tVar 20) (tCons (tVar 23) tNil))) (σ ++ [some v]) H' Q) →
      (∀ σ' H', (∃ (y5 y8 y9 y10 : Option V) (Lg : Addr) (e1 e2 e3 : V), σ' = [some (.ref a), some (.ref dk), some (.ref Lr), some (.ref Lg), z4, y5, some (.ref Ls), some (.ref pp), y8, y9, y10, some vg, some vhd, some vh, some (.int kept), some vn, some vo, some (.ref Lp), some (.str way.txt), some tp, some vs, some vt, z22] ∧
        Deck H' dk c0 (B + 10000) ∧ H' Lr = some (.lst [.str "up", .str "down", .str "high", .str "low", .str "half up", .str "half down", .str "half even", .str "half odd"]) ∧ H' Lg = some (.lst [e1, e2, e3]) ∧ ¬ DM dk c0 Lg ∧ Plain (CN K) H' e1 ∧ Plain (CN K) H' e2 ∧ Plain (CN K) H' e3 ∧
        Tabs [(Pt, (cxOf CX0 P w K mg base ["_law_script", "_law_deck_here", "_law_rules", "_law_others", "_law_turn", "_law_k", "_law_spoils", "_law_paper", "_law_told", "_law_due", "_law_goods", "_law_grain", "_law_held", "_law_here", "_law_kept", "_law_number_here", "_law_one", "_law_parts", "_law_rule", "_law_some", "_law_step", "_law_there", "_law_part"] "law" (defScope s_law) fa (.ref c) A outer s H0 E).nox.env.qual ++ "<lambda>")] H') → D.nx σ' H') →
      tt D [some (.ref a), some (.ref dk), some (.ref Lr), some (.ref Lo), z4, z5, some (.ref Ls), some (.ref pp), some (.ref Lt), some (.ref Ld), z10, some vg, some vhd, some vh, some (.int kept), some vn, some vo, some (.ref Lp), some (.str way.txt), some tp, some vs, some vt, z22] H := by
  refine ⟨_, (pss_cons (ps_set (i := 10) sc_law.nd rfl (Or.inl rfl) (pe_lst (pa_cons (pv 7) (pa_cons (pe_d (ok_shortest T) (hr.mono (by decide)) (pa_cons (pv 12) (pa_cons (pv 21) pa_nil))) (pa_cons (pe_d (ok_parts_rounded T) (hr.mono (by decide)) (pa_cons (pv 19) (pa_cons (pv 13) pa_nil))) pa_nil)))))
      (pss_cons (ps_for PassesOwn.never rfl (pi_range1 (by rfl) T.n_range (pa_cons pe_int pa_nil)) (pg_name (i := 5) sc_law.nd rfl (Or.inl rfl)) (pss_one (ps_if (pt_not (pt_val (pe_right T hgu (hr.mono (by decide)) (pa_cons (pv 1) (pa_cons (pv 6) (pa_cons (pe_ix ix_list (pv 10) (pv 5) (fun _ _ => rfl)) (pa_cons (pe_ix ix_list (pv 3) (pv 5) (fun _ _ => rfl)) (pa_cons (pe_ix ix_list (pv 8) (pv 5) (fun _ _ => rfl)) (pa_cons (pe_ix ix_list (pv 9) (pv 5) (fun _ _ => rfl)) pa_nil))))))))) (pss_one (ps_ret pe_bl)) pss_nil)))
      (pss_one (ps_set (i := 3) sc_law.nd rfl (Or.inl rfl) (pv 10))))), ?_⟩
  intro D H a dk c0 Lr Lo Ls Lp pp Lt Ld f1 f2 f3 f4 f5 f6 bs ws prs vn vs vg vh vt vhd vo tp o1 o2 o3 t b s0 s1 g0 g1 kept B way z4 z5 z10 z22 hd hB tb gR gO nR nO p1 p2 p3 gLs nLs lbs gLp nLp hpl hPP pn np ps ms pg mg' hk nh nt nhd tn no gd1 gLt gLd nLt nLd k1 k2 k3 k4 k5 k6 hQ
  obtain ⟨sp0, sp1, sb0, sb1⟩ := step_facts ms
  obtain ⟨gp0, gp1, gb0, gb1⟩ := step_facts mg'
  obtain ⟨np0, np1, np2⟩ := np
  have hsm := step_mem ms
  have hgm := step_mem mg'
  have spos := (steps_ok _ hsm).1
  have szp : Sz 24 ((t : Rat) / (b : Rat)) := Sz.mk np0 (np2.mono (by decide)) np1
  have szs : Sz 60 ((s0 : Rat) / (s1 : Rat)) := Sz.mk sp1 sb0 sb1
  have szg : Sz 60 ((g0 : Rat) / (g1 : Rat)) := Sz.mk gp1 gb0 gb1
  have hheld : ((kept * g0 : Int) : Rat) / (g1 : Rat) = (kept : Rat) * ((g0 : Rat) / (g1 : Rat)) := by rw [Rat.intCast_mul, Rat.div_def, Rat.div_def, Rat.mul_assoc]
  rw [hheld] at nhd
  have szh : Sz 90 ((kept : Rat) * ((g0 : Rat) / (g1 : Rat))) := (Sz.int hk (by decide)).mul2 szg
  have hparts : Parts (prs.map ratP) := ⟨by rw [List.length_map]; have := hPP.few; omega, fun q hq => by
    obtain ⟨p, hp, rfl⟩ := List.mem_map.mp hq
    obtain ⟨a1, a2, a3⟩ := hPP.ok p hp
    exact Sz.mono (Sz.mk a1 (a3.mono (by decide)) a2) (by decide)⟩
  refine ⟨_, rfl, _, rfl, _, rfl, vhd, vt, kept, (g0 : Rat) / (g1 : Rat), rfl, nhd, nt, szh.mono (by decide), hgm, fun a2 H1 s1' sh => ⟨_, rfl, _, rfl, tp, vh, prs.map ratP, (s0 : Rat) / (s1 : Rat), rfl, tn.same s1', hparts, nh.same s1', szs.mono (by decide), spos, fun a3 H2 s2 su => ⟨by show 3 ≤ sizeLine; decide, fun Lg nLg => ?_⟩⟩⟩
  have uG := Same.upd (o := .lst [.ref pp, .ref a2, .ref a3]) nLg
  have sG := (s1'.trans s2).trans uG
  have gd2 := (good_short (C := CN K) (M := fun _ => True) sh hgm hk).fix (Fix.same (s2.trans uG))
  have gd3 := (good_sum (M := fun _ => True) su hparts (szs.mono (by decide)) spos).fix (Fix.same uG)
  have gd1' := gd1.fix (Fix.same sG)
  have gLg : upd H2 Lg (.lst [.ref pp, .ref a2, .ref a3]) Lg = some (.lst [.ref pp, .ref a2, .ref a3]) := upd_same
  have nLg' : ¬ DM dk c0 Lg := (hd.same (s1'.trans s2)).fresh nLg
  have hd3 := hd.same sG
  generalize upd H2 Lg (.lst [.ref pp, .ref a2, .ref a3]) = H3 at *
  refine ⟨3, rfl, by decide, by decide, for_range (lo := 0) (n := 3) (fun k σ' H' => ∃ y5 : Option V, σ' = [some (.ref a), some (.ref dk), some (.ref Lr), some (.ref Lo), z4, y5, some (.ref Ls), some (.ref pp), some (.ref Lt), some (.ref Ld), some (.ref Lg), some vg, some vhd, some vh, some (.int kept), some vn, some vo, some (.ref Lp), some (.str way.txt), some tp, some vs, some vt, z22] ∧ Keep (DM dk c0) H3 H' ∧ Deck H' dk c0 (B + 1000 * (k : Int))) ?_ ?_ ?_⟩
  · exact ⟨z5, rfl, Keep.refl, hd3.more (by omega)⟩
  · rintro k σ' H' hk3 ⟨y5, rfl, kp, dkk⟩
    have kpa := (Keep.ofSame (M := DM dk c0) sG).trans kp
    have fxk := Fix.keep kp hd3.lsts
    have fxa := Fix.keep kpa hd.lsts
    have gLg' := kp _ _ gLg nLg'
    have gO' := kpa _ _ gO nO
    have gLt' := kpa _ _ gLt nLt
    have gLd' := kpa _ _ gLd nLd
    have gLs' := kpa _ _ gLs nLs
    have gLp' := kpa _ _ gLp nLp
    have fin : ∀ H4, Keep (DM dk c0) H' H4 → Deck H4 dk c0 (B + 1000 * (k : Int) + 1000) → ∃ y5' : Option V, [some (V.ref a), some (.ref dk), some (.ref Lr), some (.ref Lo), z4, some (.int (0 + (k : Int))), some (.ref Ls), some (.ref pp), some (.ref Lt), some (.ref Ld), some (.ref Lg), some vg, some vhd, some vh, some (.int kept), some vn, some vo, some (.ref Lp), some (.str way.txt), some tp, some vs, some vt, z22] = [some (V.ref a), some (.ref dk), some (.ref Lr), some (.ref Lo), z4, y5', some (.ref Ls), some (.ref pp), some (.ref Lt), some (.ref Ld), some (.ref Lg), some vg, some vhd, some vh, some (.int kept), some vn, some vo, some (.ref Lp), some (.str way.txt), some tp, some vs, some vt, z22] ∧ Keep (DM dk c0) H3 H4 ∧ Deck H4 dk c0 (B + 1000 * ((k + 1 : Nat) : Int)) := fun H4 k4 d4 => ⟨_, rfl, kp.trans k4, d4.more (by omega)⟩
    have h3 : k = 0 ∨ k = 1 ∨ k = 2 := by omega
    rcases h3 with rfl | rfl | rfl
    · refine ⟨_, rfl, _, rfl, _, rfl, _, rfl, Lg, _, _, _, rfl, rfl, SqL.of gLg', rfl, _, rfl, _, rfl, Lo, _, _, _, rfl, rfl, SqL.of gO', rfl, _, rfl, _, rfl, Lt, _, _, _, rfl, rfl, SqL.of gLt', rfl, _, rfl, _, rfl, Ld, _, _, _, rfl, rfl, SqL.of gLd', rfl, ?_⟩
      show RightW _ _ _ _ _
      refine right_mk dkk (by omega) gLs' nLs lbs (gd1'.fix fxk) (p1.fix fxa) ((k1 _).keep kpa hd.lsts) ((k4 _).keep kpa hd.lsts) ?_ ?_ fun H4 kp4 d4 => ⟨true, rfl, iteF (fin H4 kp4 d4)⟩
      · exact fun N H5 v d Q5 kp5 rep fd5 dd5 wd5 hq => ⟨_, rfl, _, rfl, _, rfl, _, rfl, N, vo, vh, v, _, _, way, d, rfl, ((no.fix fxa).fix (Fix.keep kp5 dkk.lsts)), ((nh.fix fxa).fix (Fix.keep kp5 dkk.lsts)), szp.mono (by decide), szs.mono (by decide), spos, rep, fd5, hq⟩
      · exact fun N H5 v d Q5 kp5 rep fd5 dd5 wd5 hq => ⟨_, rfl, _, rfl, _, rfl, _, rfl, N, vn, vs, v, t, b, s0, s1, way, d, rfl, ((pn.fix fxa).fix (Fix.keep kp5 dkk.lsts)), ((ps.fix fxa).fix (Fix.keep kp5 dkk.lsts)), np0, sp0, sp1, np2.mono (by decide), np1.mono (by decide), sb0, sb1, rep, fd5.more (by decide), dd5, wd5, hq⟩
    · refine ⟨_, rfl, _, rfl, _, rfl, _, rfl, Lg, _, _, _, rfl, rfl, SqL.of gLg', rfl, _, rfl, _, rfl, Lo, _, _, _, rfl, rfl, SqL.of gO', rfl, _, rfl, _, rfl, Lt, _, _, _, rfl, rfl, SqL.of gLt', rfl, _, rfl, _, rfl, Ld, _, _, _, rfl, rfl, SqL.of gLd', rfl, ?_⟩
      show RightW _ _ _ _ _
      refine right_mk dkk (by omega) gLs' nLs lbs (gd2.fix fxk) (p2.fix fxa) ((k2 _).keep kpa hd.lsts) ((k5 _).keep kpa hd.lsts) ?_ ?_ fun H4 kp4 d4 => ⟨true, rfl, iteF (fin H4 kp4 d4)⟩
      · exact fun N H5 v d Q5 kp5 rep fd5 dd5 wd5 hq => ⟨_, rfl, _, rfl, _, rfl, N, vhd, vt, v, kept, _, d, rfl, ((nhd.fix fxa).fix (Fix.keep kp5 dkk.lsts)), szh.mono (by decide), ((nt.fix fxa).fix (Fix.keep kp5 dkk.lsts)), hgm, rep, fd5, hq⟩
      · exact fun N H5 v d Q5 kp5 rep fd5 dd5 wd5 hq => ⟨_, rfl, _, rfl, _, rfl, N, vg, v, kept, g0, g1, d, rfl, ((pg.fix fxa).fix (Fix.keep kp5 dkk.lsts)), mg', hk, rep, fd5, hq⟩
    · refine ⟨_, rfl, _, rfl, _, rfl, _, rfl, Lg, _, _, _, rfl, rfl, SqL.of gLg', rfl, _, rfl, _, rfl, Lo, _, _, _, rfl, rfl, SqL.of gO', rfl, _, rfl, _, rfl, Lt, _, _, _, rfl, rfl, SqL.of gLt', rfl, _, rfl, _, rfl, Ld, _, _, _, rfl, rfl, SqL.of gLd', rfl, ?_⟩
      show RightW _ _ _ _ _
      refine right_mk dkk (by omega) gLs' nLs lbs (gd3.fix fxk) (p3.fix fxa) ((k3 _).keep kpa hd.lsts) ((k6 _).keep kpa hd.lsts) ?_ ?_ fun H4 kp4 d4 => ⟨true, rfl, iteF (fin H4 kp4 d4)⟩
      · exact fun N H5 v d Q5 kp5 rep fd5 dd5 wd5 hq => ⟨_, rfl, _, rfl, _, rfl, N, tp, vh, v, _, _, d, rfl, ((tn.fix fxa).fix (Fix.keep kp5 dkk.lsts)), hparts, ((nh.fix fxa).fix (Fix.keep kp5 dkk.lsts)), szs.mono (by decide), spos, rep, fd5, hq⟩
      · exact fun N H5 v d Q5 kp5 rep fd5 dd5 wd5 hq => ⟨_, rfl, _, rfl, _, rfl, N, Lp, ws, prs, vs, v, s0, s1, d, rfl, kp5 _ _ gLp' nLp, ((hpl.fix fxa).fix (Fix.keep kp5 dkk.lsts)), hPP, ((ps.fix fxa).fix (Fix.keep kp5 dkk.lsts)), ms, rep, fd5, hq⟩
  · rintro σ' H' ⟨y5, rfl, kp, dkk⟩
    have kpa := (Keep.ofSame (M := DM dk c0) sG).trans kp
    have fxk := Fix.keep kp hd3.lsts
    refine ⟨_, rfl, ?_⟩
    exact hQ _ _ ⟨_, _, _, _, Lg, _, _, _, rfl, dkk.more (by omega), kpa _ _ gR nR, kp _ _ gLg nLg', nLg', (gd1'.fix fxk).plain, (gd2.fix fxk).plain, (gd3.fix fxk).plain, Tabs.keep tb kpa hd.lsts⟩
end
end Fg
set_option Elab.async false
set_option linter.all false
set_option maxRecDepth 100000
set_option maxHeartbeats 2000000
/-! D21: the end of the law's loop: the lambdas, the checks. -/
namespace Fg
open PySem PySem.Spec PyProof.Rows L2 LamX
theorem np_law : ¬ ("_law_thing" : Str) ∈ (["_law_script", "_law_deck_here", "_law_rules", "_law_others", "_law_turn", "_law_k", "_law_spoils", "_law_paper", "_law_told", "_law_due", "_law_goods", "_law_grain", "_law_held", "_law_here", "_law_kept", "_law_number_here", "_law_one", "_law_parts", "_law_rule", "_law_some", "_law_step", "_law_there", "_law_part"] : List Str) := by decide +kernel
section
variable {P : Program} {w : World} {K : PySem.W.Frag} {mg : Str → Option Value} {base : Heap}
theorem law_tail (T : Tx w K mg) {A : Around} {outer : List Env} {s : Shared} {H0 : Hp} {E : XK} {fa c Pt : Addr} (hgu : A.guards = some []) (TB : TabB base mg c Pt)
    (hr : Room 29 (A.deeper (envOfC "law" (defScope s_law) s.heap.objs.size fa (.ref c)))) :
    ∃ tt, PSs (cxOf CX0 P w K mg base ["_law_script", "_law_deck_here", "_law_rules", "_law_others", "_law_turn", "_law_k", "_law_spoils", "_law_paper", "_law_told", "_law_due", "_law_goods", "_law_grain", "_law_held", "_law_here", "_law_kept", "_law_number_here", "_law_one", "_law_parts", "_law_rule", "_law_some", "_law_step", "_law_there", "_law_part"] "law" (defScope s_law) fa (.ref c) A outer s H0 E).nox lawTail tt ∧
    ∀ (D : Ends) (H : Hp) (a dk c0 Lr Lo Ls Lp pp : Addr) (bs : List Bool) (ws : List V) (prs : List (Int × Int)) (vn vs vg vh vt vhd vo tp o1 o2 o3 : V) (t b s0 s1 g0 g1 kept B : Int) (way : Way) (z4 z5 z8 z9 z10 z22 : Option V),
      Deck H dk c0 B → B ≤ 2 ^ 40 → Tabs [(Pt, (cxOf CX0 P w K mg base ["_law_script", "_law_deck_here", "_law_rules", "_law_others", "_law_turn", "_law_k", "_law_spoils", "_law_paper", "_law_told", "_law_due", "_law_goods", "_law_grain", "_law_held", "_law_here", "_law_kept", "_law_number_here", "_law_one", "_law_parts", "_law_rule", "_law_some", "_law_step", "_law_there", "_law_part"] "law" (defScope s_law) fa (.ref c) A outer s H0 E).nox.env.qual ++ "<lambda>")] H →
      H Lr = some (.lst [.str "up", .str "down", .str "high", .str "low", .str "half up", .str "half down", .str "half even", .str "half odd"]) → H Lo = some (.lst [o1, o2, o3]) → ¬ DM dk c0 Lr → ¬ DM dk c0 Lo → Plain (CN K) H o1 → Plain (CN K) H o2 → Plain (CN K) H o3 →
      H Ls = some (.lst (bs.map V.bl)) → ¬ DM dk c0 Ls → bs.length ≤ 10 → H Lp = some (.lst ws) → ¬ DM dk c0 Lp → PairL H ws prs → PartsP prs →
      Pair H vn t b → NumP t b → Pair H vs s0 s1 → (s0, s1) ∈ stepPairs → Pair H vg g0 g1 → (g0, g1) ∈ stepPairs → Bd 30 kept →
      NumV (CN K) H vh ((s0 : Rat) / (s1 : Rat)) → NumV (CN K) H vt ((g0 : Rat) / (g1 : Rat)) → NumV (CN K) H vhd (((kept * g0 : Int) : Rat) / (g1 : Rat)) → TupN (CN K) H tp (prs.map ratP) → NumV (CN K) H vo ((t : Rat) / (b : Rat)) →
      GoodAt (CN K) (fun _ => True) H (.ref pp) (roundB (rat t b s0 s1) way) →
      (∀ σ' H', (∃ (y5 y8 y9 y10 : Option V) (Lg : Addr) (e1 e2 e3 : V), σ' = [some (.ref a), some (.ref dk), some (.ref Lr), some (.ref Lg), z4, y5, some (.ref Ls), some (.ref pp), y8, y9, y10, some vg, some vhd, some vh, some (.int kept), some vn, some vo, some (.ref Lp), some (.str way.txt), some tp, some vs, some vt, z22] ∧
        Deck H' dk c0 (B + 10000) ∧ H' Lr = some (.lst [.str "up", .str "down", .str "high", .str "low", .str "half up", .str "half down", .str "half even", .str "half odd"]) ∧ H' Lg = some (.lst [e1, e2, e3]) ∧ ¬ DM dk c0 Lg ∧ Plain (CN K) H' e1 ∧ Plain (CN K) H' e2 ∧ Plain (CN K) H' e3 ∧
        Tabs [(Pt, (cxOf CX0 P w K mg base ["_law_script", "_law_deck_here", "_law_rules", "_law_others", "_law_turn", "_law_k", "_law_spoils", "_law_paper", "_law_told", "_law_due", "_law_goods", "_law_grain", "_law_held", "_law_here", "_law_kept", "_law_number_here", "_law_one", "_law_parts", "_law_rule", "_law_some", "_law_step", "_law_there", "_law_part"] "law" (defScope s_law) fa (.ref c) A outer s H0 E).nox.env.qual ++ "<lambda>")] H') → D.nx σ' H') →
      tt D [some (.ref a), some (.ref dk), some (.ref Lr), some (.ref Lo), z4, z5, some (.ref Ls), some (.ref pp), z8, z9, z10, some vg, some vhd, some vh, some (.int kept), some vn, some vo, some (.ref Lp), some (.str way.txt), some tp, some vs, some vt, z22] H := by
  obtain ⟨t2, h2, spec2⟩ := law_end (Pt := Pt) (E := E) (H0 := H0) (s := s) (outer := outer) (c := c) (fa := fa) T hgu hr
  refine ⟨_, (pss_cons (ps_set (i := 8) sc_law.nd rfl (Or.inl rfl) (pe_lst (pa_cons (pe_lam TB rfl (show LamP (defScope s_law) _ "_law_thing" from lamP_by (by decide +kernel))) pa_nil)))
      (pss_cons (ps_expr (pe_bm PySem.F.plainAttrs_list PySem.F.slot_list_append PySem.F.type_list_append mt_append (pv 8) (pa_cons (pe_lam TB rfl (show LamP (defScope s_law) _ "_law_thing" from lamP_by (by decide +kernel))) pa_nil)))
      (pss_cons (ps_expr (pe_bm PySem.F.plainAttrs_list PySem.F.slot_list_append PySem.F.type_list_append mt_append (pv 8) (pa_cons (pe_lam TB rfl (show LamP (defScope s_law) _ "_law_thing" from lamP_by (by decide +kernel))) pa_nil)))
      (pss_cons (ps_set (i := 9) sc_law.nd rfl (Or.inl rfl) (pe_lst (pa_cons (pe_lam TB rfl (show LamP (defScope s_law) _ "_law_thing" from lamP_by (by decide +kernel))) pa_nil)))
      (pss_cons (ps_expr (pe_bm PySem.F.plainAttrs_list PySem.F.slot_list_append PySem.F.type_list_append mt_append (pv 9) (pa_cons (pe_lam TB rfl (show LamP (defScope s_law) _ "_law_thing" from lamP_by (by decide +kernel))) pa_nil)))
      (pss_cons (ps_expr (pe_bm PySem.F.plainAttrs_list PySem.F.slot_list_append PySem.F.type_list_append mt_append (pv 9) (pa_cons (pe_lam TB rfl (show LamP (defScope s_law) _ "_law_thing" from lamP_by (by decide +kernel))) pa_nil)))
      h2)))))), ?_⟩
  intro D H a dk c0 Lr Lo Ls Lp pp bs ws prs vn vs vg vh vt vhd vo tp o1 o2 o3 t b s0 s1 g0 g1 kept B way z4 z5 z8 z9 z10 z22 hd hB tb gR gO nR nO p1 p2 p3 gLs nLs lbs gLp nLp hpl hPP pn np ps ms pg mg' hk nh nt nhd tn no gd1 hQ
  -- lambdas
  -- lambdas
  -- lambdas
  -- lambdas
  -- lambdas
  refine ⟨tb, fun f1 c1 H1 x1 fr1 tbn nf1 hf1 hc1 => ⟨by show 1 ≤ sizeLine; decide, fun Lt nLt => ?_⟩⟩
  have u1 := Same.upd (o := .lst [.ref f1]) nLt
  have gLt : upd H1 Lt (.lst [.ref f1]) Lt = some (.lst [.ref f1]) := upd_same
  have fxs1 := (Fix.ext x1).trans (Fix.same u1)
  have xs1 := x1.trans (ExtN.of u1)
  have fs1 : ∀ p, upd H1 Lt (.lst [.ref f1]) p = none → H p = none := fun p e => fr1 p (upd_none e)
  have nLt0 := fr1 _ nLt
  replace hf1 := u1 _ _ hf1
  replace hc1 := u1 _ _ hc1
  replace tbn := Tabs.ext tbn u1
  generalize upd H1 Lt (.lst [.ref f1]) = G1 at *
  have tb1 := tbn
  refine ⟨_, rfl, .inl ⟨rfl, _, SqL.of gLt⟩, tbn, fun f2 c2 H2 x2 fr2 tbm nf2 hf2 hc2 => ⟨Lt, _, .ref f2, rfl, rfl, x2 _ _ gLt (fun _ z => by cases z), by show 1 < sizeLine; decide, ?_⟩⟩
  replace gLt := x2 _ _ gLt (fun _ z => by cases z)
  have fl2 : Fix H2 (upd H2 Lt (.lst ([.ref f1] ++ [.ref f2]))) := Fix.lst gLt
  have fxs2 := (Fix.ext x2).trans fl2
  have xs2 : ExtN H (upd H2 Lt (.lst ([.ref f1] ++ [.ref f2]))) := extOff (xs1.trans x2) nLt0
  have fs2 : ∀ p, upd H2 Lt (.lst ([.ref f1] ++ [.ref f2])) p = none → H p = none := fun p e => fs1 p (fr2 p (upd_none e))
  replace tbn := Tabs.off (ys := [.ref f1] ++ [.ref f2]) tbm gLt
  replace hf2 := fl2 _ _ hf2 lamO_nl lamO_nt
  replace hc2 := fl2 _ _ hc2 codeO_nl codeO_nt
  replace gLt : upd H2 Lt (.lst ([.ref f1] ++ [.ref f2])) Lt = some (.lst ([.ref f1] ++ [.ref f2])) := upd_same
  replace hf1 := fxs2 _ _ hf1 lamO_nl lamO_nt
  replace hc1 := fxs2 _ _ hc1 codeO_nl codeO_nt
  generalize upd H2 Lt (.lst ([.ref f1] ++ [.ref f2])) = G2 at *
  refine ⟨_, rfl, .inl ⟨rfl, _, SqL.of gLt⟩, tbn, fun f3 c3 H3 x3 fr3 tbm nf3 hf3 hc3 => ⟨Lt, _, .ref f3, rfl, rfl, x3 _ _ gLt (fun _ z => by cases z), by show 2 < sizeLine; decide, ?_⟩⟩
  replace gLt := x3 _ _ gLt (fun _ z => by cases z)
  have fl3 : Fix H3 (upd H3 Lt (.lst ([.ref f1] ++ [.ref f2] ++ [.ref f3]))) := Fix.lst gLt
  have fxs3 := (Fix.ext x3).trans fl3
  have xs3 : ExtN H (upd H3 Lt (.lst ([.ref f1] ++ [.ref f2] ++ [.ref f3]))) := extOff (xs2.trans x3) nLt0
  have fs3 : ∀ p, upd H3 Lt (.lst ([.ref f1] ++ [.ref f2] ++ [.ref f3])) p = none → H p = none := fun p e => fs2 p (fr3 p (upd_none e))
  replace tbn := Tabs.off (ys := [.ref f1] ++ [.ref f2] ++ [.ref f3]) tbm gLt
  replace hf3 := fl3 _ _ hf3 lamO_nl lamO_nt
  replace hc3 := fl3 _ _ hc3 codeO_nl codeO_nt
  replace gLt : upd H3 Lt (.lst ([.ref f1] ++ [.ref f2] ++ [.ref f3])) Lt = some (.lst ([.ref f1] ++ [.ref f2] ++ [.ref f3])) := upd_same
  replace hf1 := fxs3 _ _ hf1 lamO_nl lamO_nt
  replace hc1 := fxs3 _ _ hc1 codeO_nl codeO_nt
  replace hf2 := fxs3 _ _ hf2 lamO_nl lamO_nt
  replace hc2 := fxs3 _ _ hc2 codeO_nl codeO_nt
  generalize upd H3 Lt (.lst ([.ref f1] ++ [.ref f2] ++ [.ref f3])) = G3 at *
  refine ⟨tbn, fun f4 c4 H4 x4 fr4 tbm nf4 hf4 hc4 => ⟨by show 1 ≤ sizeLine; decide, fun Ld nLd => ?_⟩⟩
  have gL4 := x4 _ _ gLt (fun _ z => by cases z)
  have u4 := Same.upd (o := .lst [.ref f4]) nLd
  have gLd : upd H4 Ld (.lst [.ref f4]) Ld = some (.lst [.ref f4]) := upd_same
  have fxs4 := (Fix.ext x4).trans (Fix.same u4)
  have xs4 := (xs3.trans x4).trans (ExtN.of u4)
  have fs4 : ∀ p, upd H4 Ld (.lst [.ref f4]) p = none → H p = none := fun p e => fs3 p (fr4 p (upd_none e))
  have nLd0 := fs3 _ (fr4 _ nLd)
  replace hf4 := u4 _ _ hf4
  replace hc4 := u4 _ _ hc4
  replace tbn := Tabs.ext tbm u4
  replace gLt := u4 _ _ (x4 _ _ gLt (fun _ z => by cases z))
  have ntd : Lt ≠ Ld := fun z => by rw [z] at gL4; rw [nLd] at gL4; cases gL4
  replace hf1 := fxs4 _ _ hf1 lamO_nl lamO_nt
  replace hc1 := fxs4 _ _ hc1 codeO_nl codeO_nt
  replace hf2 := fxs4 _ _ hf2 lamO_nl lamO_nt
  replace hc2 := fxs4 _ _ hc2 codeO_nl codeO_nt
  replace hf3 := fxs4 _ _ hf3 lamO_nl lamO_nt
  replace hc3 := fxs4 _ _ hc3 codeO_nl codeO_nt
  generalize upd H4 Ld (.lst [.ref f4]) = G4 at *
  refine ⟨_, rfl, .inl ⟨rfl, _, SqL.of gLd⟩, tbn, fun f5 c5 H5 x5 fr5 tbm nf5 hf5 hc5 => ⟨Ld, _, .ref f5, rfl, rfl, x5 _ _ gLd (fun _ z => by cases z), by show 1 < sizeLine; decide, ?_⟩⟩
  replace gLd := x5 _ _ gLd (fun _ z => by cases z)
  have fl5 : Fix H5 (upd H5 Ld (.lst ([.ref f4] ++ [.ref f5]))) := Fix.lst gLd
  have fxs5 := (Fix.ext x5).trans fl5
  have xs5 : ExtN H (upd H5 Ld (.lst ([.ref f4] ++ [.ref f5]))) := extOff (xs4.trans x5) nLd0
  have fs5 : ∀ p, upd H5 Ld (.lst ([.ref f4] ++ [.ref f5])) p = none → H p = none := fun p e => fs4 p (fr5 p (upd_none e))
  replace tbn := Tabs.off (ys := [.ref f4] ++ [.ref f5]) tbm gLd
  replace gLt := upd_keep (o := .lst ([.ref f4] ++ [.ref f5])) (x5 _ _ gLt (fun _ z => by cases z)) (fun z => ntd z)
  replace hf5 := fl5 _ _ hf5 lamO_nl lamO_nt
  replace hc5 := fl5 _ _ hc5 codeO_nl codeO_nt
  replace gLd : upd H5 Ld (.lst ([.ref f4] ++ [.ref f5])) Ld = some (.lst ([.ref f4] ++ [.ref f5])) := upd_same
  replace hf1 := fxs5 _ _ hf1 lamO_nl lamO_nt
  replace hc1 := fxs5 _ _ hc1 codeO_nl codeO_nt
  replace hf2 := fxs5 _ _ hf2 lamO_nl lamO_nt
  replace hc2 := fxs5 _ _ hc2 codeO_nl codeO_nt
  replace hf3 := fxs5 _ _ hf3 lamO_nl lamO_nt
  replace hc3 := fxs5 _ _ hc3 codeO_nl codeO_nt
  replace hf4 := fxs5 _ _ hf4 lamO_nl lamO_nt
  replace hc4 := fxs5 _ _ hc4 codeO_nl codeO_nt
  generalize upd H5 Ld (.lst ([.ref f4] ++ [.ref f5])) = G5 at *
  refine ⟨_, rfl, .inl ⟨rfl, _, SqL.of gLd⟩, tbn, fun f6 c6 H6 x6 fr6 tbm nf6 hf6 hc6 => ⟨Ld, _, .ref f6, rfl, rfl, x6 _ _ gLd (fun _ z => by cases z), by show 2 < sizeLine; decide, ?_⟩⟩
  replace gLd := x6 _ _ gLd (fun _ z => by cases z)
  have fl6 : Fix H6 (upd H6 Ld (.lst ([.ref f4] ++ [.ref f5] ++ [.ref f6]))) := Fix.lst gLd
  have fxs6 := (Fix.ext x6).trans fl6
  have xs6 : ExtN H (upd H6 Ld (.lst ([.ref f4] ++ [.ref f5] ++ [.ref f6]))) := extOff (xs5.trans x6) nLd0
  have fs6 : ∀ p, upd H6 Ld (.lst ([.ref f4] ++ [.ref f5] ++ [.ref f6])) p = none → H p = none := fun p e => fs5 p (fr6 p (upd_none e))
  replace tbn := Tabs.off (ys := [.ref f4] ++ [.ref f5] ++ [.ref f6]) tbm gLd
  replace gLt := upd_keep (o := .lst ([.ref f4] ++ [.ref f5] ++ [.ref f6])) (x6 _ _ gLt (fun _ z => by cases z)) (fun z => ntd z)
  replace hf6 := fl6 _ _ hf6 lamO_nl lamO_nt
  replace hc6 := fl6 _ _ hc6 codeO_nl codeO_nt
  replace gLd : upd H6 Ld (.lst ([.ref f4] ++ [.ref f5] ++ [.ref f6])) Ld = some (.lst ([.ref f4] ++ [.ref f5] ++ [.ref f6])) := upd_same
  replace hf1 := fxs6 _ _ hf1 lamO_nl lamO_nt
  replace hc1 := fxs6 _ _ hc1 codeO_nl codeO_nt
  replace hf2 := fxs6 _ _ hf2 lamO_nl lamO_nt
  replace hc2 := fxs6 _ _ hc2 codeO_nl codeO_nt
  replace hf3 := fxs6 _ _ hf3 lamO_nl lamO_nt
  replace hc3 := fxs6 _ _ hc3 codeO_nl codeO_nt
  replace hf4 := fxs6 _ _ hf4 lamO_nl lamO_nt
  replace hc4 := fxs6 _ _ hc4 codeO_nl codeO_nt
  replace hf5 := fxs6 _ _ hf5 lamO_nl lamO_nt
  replace hc5 := fxs6 _ _ hc5 codeO_nl codeO_nt
  generalize upd H6 Ld (.lst ([.ref f4] ++ [.ref f5] ++ [.ref f6])) = G6 at *
  have nLt1 := hd.fresh nLt0
  have nLd1 := hd.fresh nLd0
  have fx : Fix H G6 := Fix.ext xs6
  have nl : ∀ {p xs}, H p = some (.lst xs) → G6 p = some (.lst xs) := fun {p xs} e => xs6 _ _ e (fun _ z => by cases z)
  refine spec2 D G6 a dk c0 Lr Lo Ls Lp pp Lt Ld f1 f2 f3 f4 f5 f6 bs ws prs vn vs vg vh vt vhd vo tp o1 o2 o3 t b s0 s1 g0 g1 kept B way z4 z5 z10 z22 (hd.ext xs6) hB tbn (nl gR) (nl gO) nR nO (p1.fix fx) (p2.fix fx) (p3.fix fx) (nl gLs) nLs lbs (nl gLp) nLp (hpl.fix fx) hPP (pn.fix fx) np (ps.fix fx) ms (pg.fix fx) mg' hk (nh.fix fx) (nt.fix fx) (nhd.fix fx) (tn.fix fx) (no.fix fx) (gd1.fix fx) gLt gLd nLt1 nLd1
    (fun σ => ⟨_, _, _, "_law_thing", c1, _, (show LamP (defScope s_law) _ "_law_thing" from lamP_by (by decide +kernel)), np_law, hf1, hc1, fun _ _ _ _ _ _ => rfl, fun A' outer' s' H' hg' hr' => pe_d (ok_round_holds T) (hr'.mono (by decide)) (pa_cons (pv 16) (pa_cons (pv 13) (pa_cons (pv 18) (pa_cons (pv 23) pa_nil)))), fun _ _ _ h => h⟩)
    (fun σ => ⟨_, _, _, "_law_thing", c2, _, (show LamP (defScope s_law) _ "_law_thing" from lamP_by (by decide +kernel)), np_law, hf2, hc2, fun _ _ _ _ _ _ => rfl, fun A' outer' s' H' hg' hr' => pe_d (ok_shortest_holds T) (hr'.mono (by decide)) (pa_cons (pv 12) (pa_cons (pv 21) (pa_cons (pv 23) pa_nil))), fun _ _ _ h => h⟩)
    (fun σ => ⟨_, _, _, "_law_thing", c3, _, (show LamP (defScope s_law) _ "_law_thing" from lamP_by (by decide +kernel)), np_law, hf3, hc3, fun _ _ _ _ _ _ => rfl, fun A' outer' s' H' hg' hr' => pe_d (ok_sum_holds T) (hr'.mono (by decide)) (pa_cons (pv 19) (pa_cons (pv 13) (pa_cons (pv 23) pa_nil))), fun _ _ _ h => h⟩)
    (fun σ => ⟨_, _, _, "_law_thing", c4, _, (show LamP (defScope s_law) _ "_law_thing" from lamP_by (by decide +kernel)), np_law, hf4, hc4, fun _ _ _ _ _ _ => rfl, fun A' outer' s' H' hg' hr' => pe_dG (ok_law_round_due T) hg' (hr'.mono (by decide)) (pa_cons (pv 15) (pa_cons (pv 20) (pa_cons (pv 18) (pa_cons (pv 23) pa_nil)))), fun _ _ _ h => h⟩)
    (fun σ => ⟨_, _, _, "_law_thing", c5, _, (show LamP (defScope s_law) _ "_law_thing" from lamP_by (by decide +kernel)), np_law, hf5, hc5, fun _ _ _ _ _ _ => rfl, fun A' outer' s' H' hg' hr' => pe_d (ok_law_shortest_due T) (hr'.mono (by decide)) (pa_cons (pv 14) (pa_cons (pv 11) (pa_cons (pv 23) pa_nil))), fun _ _ _ h => h⟩)
    (fun σ => ⟨_, _, _, "_law_thing", c6, _, (show LamP (defScope s_law) _ "_law_thing" from lamP_by (by decide +kernel)), np_law, hf6, hc6, fun _ _ _ _ _ _ => rfl, fun A' outer' s' H' hg' hr' => pe_d (ok_law_sum_due T) (hr'.mono (by decide)) (pa_cons (pv 17) (pa_cons (pv 20) (pa_cons (pv 23) pa_nil))), fun _ _ _ h => h⟩) hQ
end
end Fg
set_option Elab.async false
set_option linter.all false
set_option maxRecDepth 100000
set_option maxHeartbeats 2000000
/-! D18: the law. -/
namespace Fg
open PySem PySem.Spec PyProof.Rows L2 LamX
section
variable {P : Program} {w : World} {K : PySem.W.Frag} {mg : Str → Option Value} {base : Heap}
theorem law_body (T : Tx w K mg) {A : Around} {outer : List Env} {s : Shared} {H : Hp} {E : XK} {fa c Pt a : Addr} {ns : List Int} (hgu : A.guards = some []) (TB : TabB base mg c Pt)
    (hr : Room 29 (A.deeper (envOfC "law" (defScope s_law) s.heap.objs.size fa (.ref c)))) (hTb : H Pt = some (.tbl #[])) (hsc : SqL K H a (ns.map V.int)) (hln : ns.length ≤ 63) (hbits : ∀ z ∈ ns, Builtin.Int.intBits z ≤ 1048576) :
    ∃ t, PSs (cxOf CX0 P w K mg base ["_law_script", "_law_deck_here", "_law_rules", "_law_others", "_law_turn", "_law_k", "_law_spoils", "_law_paper", "_law_told", "_law_due", "_law_goods", "_law_grain", "_law_held", "_law_here", "_law_kept", "_law_number_here", "_law_one", "_law_parts", "_law_rule", "_law_some", "_law_step", "_law_there", "_law_part"] "law" (defScope s_law) fa (.ref c) A outer s H E).nox (defBody s_law) t ∧ t { nx := fun _ H' => False, rt := fun v _ => v = .bl true } (L2.start ["_law_script", "_law_deck_here", "_law_rules", "_law_others", "_law_turn", "_law_k", "_law_spoils", "_law_paper", "_law_told", "_law_due", "_law_goods", "_law_grain", "_law_held", "_law_here", "_law_kept", "_law_number_here", "_law_one", "_law_parts", "_law_rule", "_law_some", "_law_step", "_law_there", "_law_part"] [.ref a]) H := by
  obtain ⟨t2, h2, spec2⟩ := law_tail (Pt := Pt) (E := E) (H0 := H) (s := s) (outer := outer) (c := c) (fa := fa) T hgu TB hr
  refine ⟨_, (pss_cons (ps_set (i := 1) sc_law.nd rfl (Or.inr rfl) (pe_d (ok_law_deck T) (hr.mono (by decide)) (pa_cons (pv 0) pa_nil)))
      (pss_cons (ps_set (i := 2) sc_law.nd rfl (Or.inl rfl) (pe_lst (pa_cons pe_str (pa_cons pe_str (pa_cons pe_str (pa_cons pe_str (pa_cons pe_str (pa_cons pe_str (pa_cons pe_str (pa_cons pe_str pa_nil))))))))))
      (pss_cons (ps_set (i := 3) sc_law.nd rfl (Or.inl rfl) (pe_lst (pa_cons (pe_tup (pa_cons pe_int (pa_cons pe_int (pa_cons pe_int pa_nil)))) (pa_cons (pe_tup (pa_cons pe_int (pa_cons pe_int (pa_cons pe_non pa_nil)))) (pa_cons (pe_tup (pa_cons (pe_tup (pa_cons pe_int pa_nil)) (pa_cons (pe_N2 T (hr.mono (by decide)) (pa_cons pe_int (pa_cons pe_int pa_nil))) pa_nil))) pa_nil)))))
      (pss_cons (ps_for PassesOwn.never rfl (pi_range1 (by rfl) T.n_range (pa_cons (pe_callB (call_max2 rfl) (by rfl) T.n_max (by decide +kernel) (pa_cons pe_int (pa_cons (pe_callB (call_min2 rfl) (by rfl) T.n_min (by decide +kernel) (pa_cons pe_int (pa_cons (pe_callB call_len_seq (by rfl) T.n_len (by decide +kernel) (pa_cons (pv 0) pa_nil)) pa_nil))) pa_nil))) pa_nil)) (pg_name (i := 4) sc_law.nd rfl (Or.inl rfl)) (pss_cons (ps_setLc (i := 6) (own := [("_law_k", 5)]) (tt := tYes) (by rfl) sc_law.nd rfl rfl (sw_true rfl rfl rfl (by decide +kernel)) (pi_range1 (by rfl) T.n_range (pa_cons pe_int pa_nil)) (blkOk_by (N := ["_law_script", "_law_deck_here", "_law_rules", "_law_others", "_law_turn", "_law_k", "_law_spoils", "_law_paper", "_law_told", "_law_due", "_law_goods", "_law_grain", "_law_held", "_law_here", "_law_kept", "_law_number_here", "_law_one", "_law_parts", "_law_rule", "_law_some", "_law_step", "_law_there", "_law_part"]) (sc := defScope s_law) (by decide +kernel)) (fun _ _ _ _ _ => (pg_name (i := 5) sc_law.nd rfl (Or.inl rfl))) (fun _ _ _ _ _ => pts_nil) (fun _ _ _ _ _ => (pe_cmpR op_eq (pe_d (ok_law_draw T) (hr.mono (by decide)) (pa_cons (pv 1) (pa_cons pe_int pa_nil))) pe_int (nomark _))))
      (pss_cons (ps_asg (pe_tup (pa_cons (pe_d (ok_law_some_number T) (hr.mono (by decide)) (pa_cons (pv 1) pa_nil)) (pa_cons (pe_d (ok_law_some_step T) (hr.mono (by decide)) (pa_cons (pv 1) pa_nil)) pa_nil))) (pg_tup (by rfl) (pgs_cons (pg_name (i := 15) sc_law.nd rfl (Or.inr rfl)) (pgs_cons (pg_name (i := 20) sc_law.nd rfl (Or.inr rfl)) pgs_nil))))
      (pss_cons (ps_set (i := 18) sc_law.nd rfl (Or.inr rfl) (pe_ix ix_list (pv 2) (pe_d (ok_law_draw T) (hr.mono (by decide)) (pa_cons (pv 1) (pa_cons pe_int pa_nil))) (fun _ _ => rfl)))
      (pss_cons (ps_asg (pe_tup (pa_cons (pe_op op_sub (pe_d (ok_law_draw T) (hr.mono (by decide)) (pa_cons (pv 1) (pa_cons (pe_op op_pow pe_int pe_int) pa_nil))) (pe_ix ix_list (pe_lst (pa_cons pe_int (pa_cons (pe_op op_pow pe_int pe_int) (pa_cons pe_int pa_nil)))) (pe_d (ok_law_draw T) (hr.mono (by decide)) (pa_cons (pv 1) (pa_cons pe_int pa_nil))) (fun _ _ => rfl))) (pa_cons (pe_d (ok_law_some_step T) (hr.mono (by decide)) (pa_cons (pv 1) pa_nil)) pa_nil))) (pg_tup (by rfl) (pgs_cons (pg_name (i := 14) sc_law.nd rfl (Or.inr rfl)) (pgs_cons (pg_name (i := 11) sc_law.nd rfl (Or.inr rfl)) pgs_nil))))
      (pss_cons (ps_set (i := 17) sc_law.nd rfl (Or.inr rfl) (pe_lc (own := [("_law_k", 5)]) (tt := tYes) (by rfl) sc_law.nd (pi_range1 (by rfl) T.n_range (pa_cons (pe_op op_add pe_int (pe_d (ok_law_draw T) (hr.mono (by decide)) (pa_cons (pv 1) (pa_cons pe_int pa_nil)))) pa_nil)) (blkOk_by (N := ["_law_script", "_law_deck_here", "_law_rules", "_law_others", "_law_turn", "_law_k", "_law_spoils", "_law_paper", "_law_told", "_law_due", "_law_goods", "_law_grain", "_law_held", "_law_here", "_law_kept", "_law_number_here", "_law_one", "_law_parts", "_law_rule", "_law_some", "_law_step", "_law_there", "_law_part"]) (sc := defScope s_law) (by decide +kernel)) (fun _ _ _ _ _ => (pg_name (i := 5) sc_law.nd rfl (Or.inl rfl))) (fun _ _ _ _ _ => pts_nil) (fun _ _ _ _ _ => (pe_d (ok_law_some_number T) (hr.mono (by decide)) (pa_cons (pv 1) pa_nil)))))
      (pss_cons (ps_asg (pe_tup (pa_cons (pe_d (ok_law_number T) (hr.mono (by decide)) (pa_cons (pv 20) pa_nil)) (pa_cons (pe_d (ok_law_number T) (hr.mono (by decide)) (pa_cons (pv 11) pa_nil)) pa_nil))) (pg_tup (by rfl) (pgs_cons (pg_name (i := 13) sc_law.nd rfl (Or.inr rfl)) (pgs_cons (pg_name (i := 21) sc_law.nd rfl (Or.inr rfl)) pgs_nil))))
      (pss_cons (ps_asg (pe_tup (pa_cons (pe_callTy call_tuple_of (by rfl) T.n_tuple (by decide +kernel) (pa_cons (pe_lc (own := [("_law_part", 22)]) (tt := tYes) (by rfl) sc_law.nd (pi_list (pv 17)) (blkOk_by (N := ["_law_script", "_law_deck_here", "_law_rules", "_law_others", "_law_turn", "_law_k", "_law_spoils", "_law_paper", "_law_told", "_law_due", "_law_goods", "_law_grain", "_law_held", "_law_here", "_law_kept", "_law_number_here", "_law_one", "_law_parts", "_law_rule", "_law_some", "_law_step", "_law_there", "_law_part"]) (sc := defScope s_law) (by decide +kernel)) (fun _ _ _ _ _ => (pg_name (i := 22) sc_law.nd rfl (Or.inl rfl))) (fun _ _ _ _ _ => pts_nil) (fun _ _ _ _ _ => (pe_d (ok_law_number T) (hr.mono (by decide)) (pa_cons (pv 22) pa_nil)))) pa_nil)) (pa_cons (pe_N2 T (hr.mono (by decide)) (pa_cons (pe_op op_mulW (pv 14) (pe_ix ix_tup (pv 11) pe_int (fun _ _ => rfl))) (pa_cons (pe_ix ix_tup (pv 11) pe_int (fun _ _ => rfl)) pa_nil))) pa_nil))) (pg_tup (by rfl) (pgs_cons (pg_name (i := 19) sc_law.nd rfl (Or.inr rfl)) (pgs_cons (pg_name (i := 12) sc_law.nd rfl (Or.inr rfl)) pgs_nil))))
      (pss_cons (ps_asg (pe_tup (pa_cons (pe_d (ok_law_number T) (hr.mono (by decide)) (pa_cons (pv 15) pa_nil)) (pa_cons (pe_rp T (hr.mono (by decide)) (pa_cons (pe_d (ok_law_number T) (hr.mono (by decide)) (pa_cons (pv 15) pa_nil)) (pa_cons (pv 13) pa_nil)) (pk_cons (pv 18) pk_nil)) pa_nil))) (pg_tup (by rfl) (pgs_cons (pg_name (i := 16) sc_law.nd rfl (Or.inr rfl)) (pgs_cons (pg_name (i := 7) sc_law.nd rfl (Or.inl rfl)) pgs_nil))))
      h2)))))))))
      (pss_one (ps_ret pe_bl)))))), ?_⟩
  refine ⟨_, rfl, a, ns, rfl, hsc, hln, fun dk c0 H1 s1 n1 n2 hd1 => ⟨by show 8 ≤ sizeLine; decide, fun Lr nLr => ⟨by show 3 ≤ sizeLine; decide, fun t1 nt1 => ⟨by show 3 ≤ sizeLine; decide, fun t2 nt2 => ⟨by show 1 ≤ sizeLine; decide, fun t3 nt3 => ?_⟩⟩⟩⟩⟩
  refine ⟨_, _, rfl, by decide, by unfold Bd; decide, fun nv H2 s2 hnv => ⟨by show 2 ≤ sizeLine; decide, fun t4 nt4 => ⟨by show 3 ≤ sizeLine; decide, fun Lo nLo => ?_⟩⟩⟩
  have uR := Same.upd (o := .lst [.str "up", .str "down", .str "high", .str "low", .str "half up", .str "half down", .str "half even", .str "half odd"]) nLr
  have u1 := Same.upd (o := .tup [.int 0, .int 0, .int 0]) nt1
  have u2 := Same.upd (o := .tup [.int 0, .int 0, .non]) nt2
  have u3 := Same.upd (o := .tup [.int 0]) nt3
  have u4 := Same.upd (o := .tup [.ref t3, nv]) nt4
  have uO := Same.upd (o := .lst [.ref t1, .ref t2, .ref t4]) nLo
  have f4 := uO
  have f3n := u4.trans f4
  have f3 := s2.trans f3n
  have f2 := u3.trans f3
  have f1 := u2.trans f2
  have fR := u1.trans f1
  have f0 := uR.trans fR
  have gR := fR Lr _ upd_same
  have g1 := f1 t1 _ upd_same
  have g2 := f2 t2 _ upd_same
  have g3 := f3 t3 _ upd_same
  have g4 := f4 t4 _ upd_same
  have gN := hnv.same f3n
  have gO : (upd (upd H2 t4 (.tup [.ref t3, nv])) Lo (.lst [.ref t1, .ref t2, .ref t4])) Lo = some (.lst [.ref t1, .ref t2, .ref t4]) := upd_same
  have hd0 := hd1.same f0
  have sA := s1.trans f0
  have nR : ¬ DM dk c0 Lr := hd1.fresh nLr
  have nO : ¬ DM dk c0 Lo := (hd1.same ((((uR.trans u1).trans u2).trans u3).trans (s2.trans u4))).fresh nLo
  generalize upd (upd H2 t4 (.tup [.ref t3, nv])) Lo (.lst [.ref t1, .ref t2, .ref t4]) = HA at *
  have tb0 : Tabs [(Pt, (cxOf CX0 P w K mg base ["_law_script", "_law_deck_here", "_law_rules", "_law_others", "_law_turn", "_law_k", "_law_spoils", "_law_paper", "_law_told", "_law_due", "_law_goods", "_law_grain", "_law_held", "_law_here", "_law_kept", "_law_number_here", "_law_one", "_law_parts", "_law_rule", "_law_some", "_law_step", "_law_there", "_law_part"] "law" (defScope s_law) fa (.ref c) A outer s H E).nox.env.qual ++ "<lambda>")] HA := fun p hp => by
    rw [List.mem_singleton.mp hp]
    exact TabS.nil (sA _ _ hTb)
  have o1 : Plain (CN K) HA (.ref t1) := ⟨.tup [.int 0, .int 0, .int 0], by unfold Rep; exact ⟨t1, _, rfl, g1, reps_cons.mpr ⟨rep_int_of, reps_cons.mpr ⟨rep_int_of, reps_cons.mpr ⟨rep_int_of, reps_nil⟩⟩⟩⟩, by simp only [Fine, Fines]; exact ⟨by unfold Bd; decide, by unfold Bd; decide, by unfold Bd; decide, trivial⟩, by simp only [D.wt, D.wts]; decide, by simp only [D.dep, D.deps]; decide⟩
  have o2 : Plain (CN K) HA (.ref t2) := ⟨.tup [.int 0, .int 0, .non], by unfold Rep; exact ⟨t2, _, rfl, g2, reps_cons.mpr ⟨rep_int_of, reps_cons.mpr ⟨rep_int_of, reps_cons.mpr ⟨by unfold Rep; rfl, reps_nil⟩⟩⟩⟩, by simp only [Fine, Fines]; exact ⟨by unfold Bd; decide, by unfold Bd; decide, trivial, trivial⟩, by simp only [D.wt, D.wts]; decide, by simp only [D.dep, D.deps]; decide⟩
  have o3 : Plain (CN K) HA (.ref t4) := ⟨.tup [.tup [.int 0], .num (((1 : Int) : Rat) / ((2 : Int) : Rat))], by
    unfold Rep
    refine ⟨t4, _, rfl, g4, reps_cons.mpr ⟨?_, reps_cons.mpr ⟨?_, reps_nil⟩⟩⟩
    · unfold Rep
      exact ⟨t3, _, rfl, g3, reps_cons.mpr ⟨rep_int_of, reps_nil⟩⟩
    · unfold Rep
      exact gN, by
    simp only [Fine, Fines]
    exact ⟨⟨by unfold Bd; decide, trivial⟩, Sz.mono (show Sz 2 (((1 : Int) : Rat) / ((2 : Int) : Rat)) from Sz.mk (by decide) (by unfold Bd; decide) (by unfold Bd; decide)) (by decide), trivial⟩, by simp only [D.wt, D.wts]; decide, by simp only [D.dep, D.deps]; decide⟩
  have hscA := sA.seq hsc
  generalize hj : (if (if (((ns.map V.int).length : Nat) : Int) < 3 then (((ns.map V.int).length : Nat) : Int) else 3) > 1 then (if (((ns.map V.int).length : Nat) : Int) < 3 then (((ns.map V.int).length : Nat) : Int) else 3) else 1) = j
  have hj2 : 1 ≤ j ∧ j ≤ 3 := by
    rw [← hj]
    split <;> split <;> omega
  refine ⟨_, rfl, a, _, rfl, .inl hscA, _, _, rfl, _, _, rfl, j, by rw [← hj], by omega, by omega, for_range (lo := 0) (n := j.toNat) (fun i σ' H' => ∃ (z4 z5 z6 z7 z8 z9 z10 z11 z12 z13 z14 z15 z16 z17 z18 z19 z20 z21 z22 : Option V) (Lo : Addr) (o1 o2 o3 : V), σ' = [some (.ref a), some (.ref dk), some (.ref Lr), some (.ref Lo), z4, z5, z6, z7, z8, z9, z10, z11, z12, z13, z14, z15, z16, z17, z18, z19, z20, z21, z22] ∧ Deck H' dk c0 (100000 * (i : Int)) ∧
    H' Lr = some (.lst [.str "up", .str "down", .str "high", .str "low", .str "half up", .str "half down", .str "half even", .str "half odd"]) ∧ H' Lo = some (.lst [o1, o2, o3]) ∧ ¬ DM dk c0 Lo ∧ Plain (CN K) H' o1 ∧ Plain (CN K) H' o2 ∧ Plain (CN K) H' o3 ∧
    Tabs [(Pt, (cxOf CX0 P w K mg base ["_law_script", "_law_deck_here", "_law_rules", "_law_others", "_law_turn", "_law_k", "_law_spoils", "_law_paper", "_law_told", "_law_due", "_law_goods", "_law_grain", "_law_held", "_law_here", "_law_kept", "_law_number_here", "_law_one", "_law_parts", "_law_rule", "_law_some", "_law_step", "_law_there", "_law_part"] "law" (defScope s_law) fa (.ref c) A outer s H E).nox.env.qual ++ "<lambda>")] H') ?_ ?_ ?_⟩
  · exact ⟨none, none, none, none, none, none, none, none, none, none, none, none, none, none, none, none, none, none, none, Lo, _, _, _, rfl, hd0.more (by omega), gR, gO, nO, o1, o2, o3, tb0⟩
  · clear hd0 gR gO nO o1 o2 o3 tb0 hscA g1 g2 g3 g4 gN sA f0 fR f1 f2 f3 f3n f4 nLo
    rintro i σ' H5 hi ⟨z4, z5, z6, z7, z8, z9, z10, z11, z12, z13, z14, z15, z16, z17, z18, z19, z20, z21, z22, Lo, o1, o2, o3, rfl, hd, gR, gO, nO, p1, p2, p3, tb⟩
    have hi3 : i < 3 := by omega
    refine ⟨10, rfl, by decide, by decide, fun Ls nLs => lc_range (lo := 0) (n := 10) (fun m H6 => ∃ bs : List Bool, bs.length = m ∧ H6 Ls = some (.lst (bs.map V.bl)) ∧ Keep (DM dk c0) H5 H6 ∧ Deck H6 dk c0 (100000 * (i : Int) + (m : Int))) ?_ ?_ ?_⟩
    · exact ⟨[], rfl, upd_same, Keep.ofSame (Same.upd nLs), (hd.upd nLs).more (by omega)⟩
    · rintro m H6 hm ⟨bs, hbs, gL, kp, dk6⟩
      have nm := hd.fresh nLs
      refine ⟨rfl, Exists.intro _ ⟨rfl, dk, c0, _, 3, rfl, dk6, by omega, by decide, by unfold Bd; decide, fun z H7 k7 d7 z0 z3 => ⟨rfl, _, k7 _ _ gL nm, ?_, bs ++ [decide (V.int z = V.int 0)], ?_, ?_, ?_, ?_⟩⟩⟩
      · rw [List.length_map, hbs]
        exact Nat.lt_of_lt_of_le hm (by decide)
      · rw [List.length_append, hbs]; rfl
      · rw [upd_same, List.map_append]; rfl
      · intro b o e n
        rw [upd_ne (ne_of_none e nLs)]
        exact k7 _ _ (kp _ _ e n) n
      · refine Deck.more (Deck.off d7 ?_ ?_) (by omega)
        · exact fun e => nm (.inl e.symm)
        · exact fun e => nm (.inr e.symm)
    · rintro H6 ⟨bs, hbs, gLs, k6, hd6⟩
      have nLs6 := hd.fresh nLs
      refine ⟨_, rfl, dk, c0, _, rfl, hd6, by omega, fun vn t b H7 k7 hd7 pn np => ⟨_, rfl, dk, c0, _, rfl, hd7, by omega, fun vs s0 s1 H8 k8 hd8 ps ms => ⟨by show 2 ≤ sizeLine; decide, fun tt ntt => ⟨tt, _, rfl, SqT.of upd_same, rfl, _, _, rfl, _, _, rfl, rfl, ?_⟩⟩⟩⟩
      have u8 := Same.upd (o := .tup [vn, vs]) ntt
      have pn8 := (pn.keep k8 hd7.lsts).same u8
      have ps8 := ps.same u8
      have k68 := (k7.trans k8).trans (Keep.ofSame (M := DM dk c0) u8)
      have hd8' := hd8.same u8
      generalize upd H8 tt (.tup [vn, vs]) = H9 at *
      have gR9 := k68 _ _ (k6 _ _ gR nR) nR
      refine ⟨_, rfl, _, rfl, dk, c0, _, 8, rfl, hd8', by omega, by decide, by unfold Bd; decide, fun z H10 k10 hd10 za zb => ?_⟩
      obtain ⟨way, hway⟩ := rules_way za zb
      refine ⟨Lr, _, z, _, rfl, rfl, SqL.of (k10 _ _ gR9 nR), hway, ?_⟩
      refine ⟨_, rfl, _, _, rfl, rfl, ⟨by decide, by decide, by decide⟩, dk, c0, _, _, rfl, hd10, by omega, by decide, by unfold Bd; decide, fun y1 H11 k11 hd11 ya yb => ⟨_, _, rfl, rfl, ⟨by decide, by decide, by decide⟩, by show 3 ≤ sizeLine; decide, fun L3 nL3 => ⟨_, rfl, dk, c0, _, 3, rfl, hd11.same (Same.upd nL3), by omega, by decide, by unfold Bd; decide, fun y2 H12 k12 hd12 yc yd => ?_⟩⟩⟩
      obtain ⟨kz, hkz, kz0, kz1⟩ := kept_at yc yd
      have nL3' : ¬ DM dk c0 L3 := hd11.fresh nL3
      refine ⟨L3, _, y2, _, rfl, rfl, SqL.of (k12 _ _ upd_same nL3'), hkz, _, _, rfl, rfl, _, rfl, dk, c0, _, rfl, hd12, by omega, fun vg g0 g1 H13 k13 hd13 pg mg' => ⟨by show 2 ≤ sizeLine; decide, fun t5 nt5 => ⟨t5, _, rfl, SqT.of upd_same, rfl, _, _, rfl, _, _, rfl, rfl, ?_⟩⟩⟩
      have hk30 : Bd 30 (y1 - kz) := by
        have e6 : (10 : Int) ^ (6 : Int).toNat = 1000000 := by decide
        rw [e6] at yb
        have : (y1 - kz).natAbs ≤ 1000000 := by omega
        exact Nat.lt_of_le_of_lt this (by decide)
      generalize hkp : (fun (i j : Int) => V.int (i - j)) y1 kz = kv at *
      obtain ⟨kept, hkept, rfl⟩ : ∃ kept : Int, Bd 30 kept ∧ kv = .int kept := ⟨y1 - kz, hk30, hkp.symm⟩
      have u13 := Same.upd (o := .tup [.int kept, vg]) nt5
      have kk : Keep (DM dk c0) H9 (upd H13 t5 (.tup [.int kept, vg])) := ((((k10.trans k11).trans (Keep.ofSame (Same.upd nL3))).trans k12).trans k13).trans (Keep.ofSame u13)
      have pg14 := pg.same u13
      have hd14 := hd13.same u13
      have pn14 := pn8.keep kk hd8'.lsts
      have ps14 := ps8.keep kk hd8'.lsts
      have k614 := k68.trans kk
      generalize upd H13 t5 (.tup [.int kept, vg]) = H14 at *
      clear k10 k11 k12 k13 hd10 hd11 hd12 hd13 u13 u8 k7 k8 hd7 hd8 hkz
      refine ⟨_, rfl, dk, c0, _, 8, rfl, hd14, by omega, by decide, by unfold Bd; decide, fun z5' H15 k15 hd15 ze zf => ⟨_, _, rfl, rfl, _, rfl, by omega, by omega, fun Lp nLp => lc_range (lo := 0) (n := (1 + z5').toNat) (fun m H16 => ∃ (ws : List V) (prs : List (Int × Int)), ws.length = m ∧ H16 Lp = some (.lst ws) ∧ PairL H16 ws prs ∧ (∀ p ∈ prs, NumP p.1 p.2) ∧ Keep (DM dk c0) H15 H16 ∧ Deck H16 dk c0 (100000 * (i : Int) + 100 + 4 * (m : Int))) ?_ ?_ ?_⟩⟩
      · exact ⟨[], [], rfl, upd_same, ⟨rfl, fun i v p a => by simp at a⟩, fun p hp => (nomatch hp), Keep.ofSame (Same.upd nLp), (hd15.upd nLp).more (by omega)⟩
      · rintro m H16 hm ⟨ws, prs, hws, gL, hpl, hnp, kp, dk6⟩
        have nm := hd15.fresh nLp
        refine ⟨rfl, Exists.intro _ ⟨rfl, dk, c0, _, rfl, dk6, by omega, fun v t' b' H17 k17 d17 pr np' => ⟨ws, k17 _ _ gL nm, ?_, ws ++ [v], prs ++ [(t', b')], ?_, ?_, ?_, ?_, ?_, ?_⟩⟩⟩
        · rw [hws]
          exact Nat.lt_of_lt_of_le (show m < 100 by omega) (by decide)
        · rw [List.length_append, hws]; rfl
        · exact upd_same
        · have fx : Fix H16 (upd H17 Lp (.lst (ws ++ [v]))) := (Fix.keep k17 dk6.lsts).trans (Fix.lst (k17 _ _ gL nm))
          have fx2 : Fix H17 (upd H17 Lp (.lst (ws ++ [v]))) := Fix.lst (k17 _ _ gL nm)
          refine ⟨by rw [List.length_append, List.length_append, hpl.1]; rfl, fun q v' p' a1 a2 => ?_⟩
          by_cases hq : q < ws.length
          · rw [List.getElem?_append_left hq] at a1
            rw [List.getElem?_append_left (by rw [← hpl.1]; exact hq)] at a2
            exact (hpl.2 q v' p' a1 a2).fix fx
          · rw [List.getElem?_append_right (by omega)] at a1
            rw [List.getElem?_append_right (by rw [← hpl.1]; omega), ← hpl.1] at a2
            have hq2 : q - ws.length = 0 := by
              have := (List.getElem?_eq_some_iff.mp a1).1
              simp only [List.length_cons, List.length_nil] at this
              omega
            rw [hq2] at a1 a2
            cases a1
            cases a2
            exact pr.fix fx2
        · intro p hp
          rcases List.mem_append.mp hp with hp | hp
          · exact hnp p hp
          · rw [List.mem_singleton.mp hp]; exact np'
        · intro b o e n
          rw [upd_ne (ne_of_none e nLp)]
          exact k17 _ _ (kp _ _ e n) n
        · refine Deck.more (Deck.off d17 ?_ ?_) (by omega)
          · exact fun e => nm (.inl e.symm)
          · exact fun e => nm (.inr e.symm)
      · rintro H16 ⟨ws, prs, hws, gLp, hpl, hnp, k16, hd16⟩
        have nLp' := hd15.fresh nLp
        have hPP : PartsP prs := ⟨by rw [← hpl.1, hws]; omega, hnp⟩
        have k616 := k614.trans (k15.trans k16)
        have pn16 := pn14.keep (k15.trans k16) hd14.lsts
        have ps16 := ps14.keep (k15.trans k16) hd14.lsts
        have pg16 := pg14.keep (k15.trans k16) hd14.lsts
        obtain ⟨sp0, sp1, sb0, sb1⟩ := step_facts ms
        obtain ⟨gp0, gp1, gb0, gb1⟩ := step_facts mg'
        obtain ⟨np0, np1, np2⟩ := np
        refine ⟨_, rfl, vs, s0, s1, rfl, ps16, sp1, sb1.mono (by decide), fun vh H17 s17 nh => ⟨_, rfl, vg, g0, g1, rfl, pg16.same s17, gp1, gb1.mono (by decide), fun vt H18 s18 nt => ⟨by show 2 ≤ sizeLine; decide, fun t6 nt6 => ⟨t6, _, rfl, SqT.of upd_same, rfl, _, _, rfl, _, _, rfl, rfl, ?_⟩⟩⟩⟩
        have u18 := Same.upd (o := .tup [vh, vt]) nt6
        have s1618 := (s17.trans s18).trans u18
        have nh18 := (nh.same s18).same u18
        have nt18 := nt.same u18
        have pn18 := pn16.same s1618
        have ps18 := ps16.same s1618
        have pg18 := pg16.same s1618
        have gLp18 := s1618 _ _ gLp
        have hpl18 := hpl.same s1618
        have hd18 := hd16.same s1618
        have k618 := k616.trans (Keep.ofSame (M := DM dk c0) s1618)
        generalize upd H18 t6 (.tup [vh, vt]) = H19 at *
        clear s17 s18 u18 s1618 nh nt pn16 ps16 pg16 gLp hpl hd16 k616
        obtain ⟨pga, rfl, gpg⟩ := pg18
        refine ⟨_, rfl, Lp, rfl, ⟨_, SqL.of gLp18⟩, fun Ln nLn => lc_list (K := K) (a := Lp) (xs := ws) (fun m H20 => ∃ us : List V, us.length = m ∧ H20 Ln = some (.lst us) ∧ NumL (CN K) H20 us ((prs.take m).map ratP) ∧ Same H19 H20) ?_ ?_ ?_ ?_⟩
        · exact ⟨[], rfl, upd_same, ⟨rfl, fun i v q a => by simp at a⟩, Same.upd nLn⟩
        · rintro m H20 hm ⟨us, _, _, _, s20⟩
          exact SqL.of (s20 _ _ gLp18)
        · rintro m x H20 hx ⟨us, hus, gL, hnl, s20⟩
          have hmlt : m < prs.length := by
            rw [← hpl18.1]
            exact (List.getElem?_eq_some_iff.mp hx).1
          have hpm := List.getElem?_eq_getElem hmlt
          obtain ⟨npa, npb, npc⟩ := hnp _ (List.getElem_mem hmlt)
          refine ⟨rfl, Exists.intro _ ⟨rfl, x, _, _, rfl, (hpl18.2 m x _ hx hpm).same s20, npa, npb.mono (by decide), fun u H21 s21 nu => ⟨us, s21 _ _ gL, ?_, us ++ [u], ?_, ?_, ?_, ?_⟩⟩⟩
          · rw [hus]
            exact Nat.lt_of_lt_of_le (show m < 100 by have := hPP.few; omega) (by decide)
          · rw [List.length_append, hus]; rfl
          · exact upd_same
          · have fx2 : Fix H21 (upd H21 Ln (.lst (us ++ [u]))) := Fix.lst (s21 _ _ gL)
            have fx : Fix H20 (upd H21 Ln (.lst (us ++ [u]))) := (Fix.same s21).trans fx2
            rw [List.take_add_one, hpm, List.map_append]
            refine ⟨by rw [List.length_append, List.length_append, hnl.1]; rfl, fun q v' p' a1 a2 => ?_⟩
            by_cases hq : q < us.length
            · rw [List.getElem?_append_left hq] at a1
              rw [List.getElem?_append_left (by rw [← hnl.1]; exact hq)] at a2
              exact (hnl.2 q v' p' a1 a2).fix fx
            · rw [List.getElem?_append_right (by omega)] at a1
              rw [List.getElem?_append_right (by rw [← hnl.1]; omega), ← hnl.1] at a2
              have hq2 : q - us.length = 0 := by
                have := (List.getElem?_eq_some_iff.mp a1).1
                simp only [List.length_cons, List.length_nil] at this
                omega
              rw [hq2] at a1 a2
              cases a1
              cases a2
              exact nu.fix fx2
          · intro b o e
            rw [upd_ne (ne_of_none e nLn)]
            exact s21 _ _ (s20 _ _ e)
        · rintro H20 ⟨us, hus, gLn, hnl, s20⟩
          rw [hpl18.1, List.take_length] at hnl
          refine ⟨Ln, us, rfl, .inl ⟨SqL.of gLn, fun tp ntp => ?_⟩⟩
          have utp := Same.upd (o := .tup us) ntp
          have s21 := s20.trans utp
          have hnl21 := hnl.same utp
          have gtp : upd H20 tp (.tup us) tp = some (.tup us) := upd_same
          have gpg21 := s21 _ _ gpg
          have hk60 : Bd 90 (kept * g0) := hkept.mul gb0
          refine ⟨_, rfl, _, rfl, pga, _, _, _, rfl, rfl, SqT.of gpg21, atI_nat (j := 0) rfl, _, _, rfl, rfl, wide_mul hkept gb0 (by decide) (by decide) (by decide), _, rfl, pga, _, _, _, rfl, rfl, SqT.of gpg21, atI_nat (j := 1) rfl, _, _, rfl, gp1, gb1.mono (by decide), fun vhd H22 s22 nhd => ⟨by show 2 ≤ sizeLine; decide, fun t7 nt7 => ⟨t7, _, rfl, SqT.of upd_same, rfl, _, _, rfl, _, _, rfl, rfl, ?_⟩⟩⟩
          have u22 := Same.upd (o := .tup [.ref tp, vhd]) nt7
          have sB := (s21.trans s22).trans u22
          have nh23 := nh18.same sB
          have nt23 := nt18.same sB
          have pn23 := pn18.same sB
          have ps23 := ps18.same sB
          have pg23 : Pair _ (.ref pga) g0 g1 := ⟨pga, rfl, sB _ _ gpg⟩
          have nhd23 := nhd.same u22
          have tn23 : TupN (CN K) _ (.ref tp) (prs.map ratP) := ⟨tp, us, rfl, (s22.trans u22) _ _ gtp, hnl21.same (s22.trans u22)⟩
          have hpl23 := hpl18.same sB
          have gLp23 := sB _ _ gLp18
          have hd23 := hd18.same sB
          have k623 := k618.trans (Keep.ofSame (M := DM dk c0) sB)
          generalize upd H22 t7 (.tup [.ref tp, vhd]) = H23 at *
          clear nh18 nt18 pn18 ps18 hpl18 gLp18 hd18 k618 sB u22 s22 s21 s20 nhd gtp hnl21 hnl gLn gpg21 utp gpg
          have hsm := step_mem ms
          have hgm := step_mem mg'
          have spos := (steps_ok _ hsm).1
          have szp : Sz 24 ((t : Rat) / (b : Rat)) := Sz.mk np0 (np2.mono (by decide)) np1
          have szs : Sz 60 ((s0 : Rat) / (s1 : Rat)) := Sz.mk sp1 sb0 sb1
          refine ⟨_, rfl, vn, t, b, rfl, pn23, np0, np1.mono (by decide), fun vo H24 s24 no => ⟨_, rfl, vn, t, b, rfl, pn23.same s24, np0, np1.mono (by decide), fun vo2 H25 s25 no2 => ⟨_, rfl, _, rfl, rfl, rfl, vo2, vh, (t : Rat) / (b : Rat), (s0 : Rat) / (s1 : Rat), way, rfl, no2, (nh23.same s24).same s25, szp.mono (by decide), szs.mono (by decide), spos, fun pp H26 s26 gp => ⟨by show 2 ≤ sizeLine; decide, fun t8 nt8 => ⟨t8, _, rfl, SqT.of upd_same, rfl, _, _, rfl, _, _, rfl, rfl, ?_⟩⟩⟩⟩⟩
          have u26 := Same.upd (o := .tup [vo, .ref pp]) nt8
          have sC := ((s24.trans s25).trans s26).trans u26
          have gpp := u26 _ _ gp
          have no27 := no.same ((s25.trans s26).trans u26)
          have nh27 := nh23.same sC
          have nt27 := nt23.same sC
          have pn27 := pn23.same sC
          have ps27 := ps23.same sC
          have pg27 := pg23.same sC
          have nhd27 := nhd23.same sC
          have tn27 := tn23.same sC
          have hpl27 := hpl23.same sC
          have gLp27 := sC _ _ gLp23
          have hd27 := hd23.same sC
          have k627 := k623.trans (Keep.ofSame (M := DM dk c0) sC)
          generalize upd H26 t8 (.tup [vo, .ref pp]) = H27 at *
          clear nh23 nt23 pn23 ps23 pg23 nhd23 tn23 hpl23 gLp23 hd23 k623 sC u26 s24 s25 s26 no no2 gp
          have good1 : GoodAt (CN K) (fun _ => True) H27 (.ref pp) (roundB (rat t b s0 s1) way) := good_round gpp ((szp.div2 szs spos).mono (by decide))
          have k527 := k6.trans k627
          have tb27 := Tabs.keep tb k527 hd.lsts
          have gR27 := k527 _ _ gR nR
          have gO27 := k527 _ _ gO nO
          have gLs27 := k627 _ _ gLs nLs6
          have fx527 := Fix.keep k527 hd.lsts
          have q1 := p1.fix fx527
          have q2 := p2.fix fx527
          have q3 := p3.fix fx527
          clear tb gR gO gLs k527 k627 fx527 p1 p2 p3 k6 hd hd6 gpp
          refine spec2 _ H27 a dk c0 Lr Lo Ls Lp pp bs ws prs vn vs (.ref pga) vh vt vhd vo (.ref tp) o1 o2 o3 t b s0 s1 g0 g1 kept _ way _ z5 z8 z9 z10 z22 hd27 (by omega) tb27 gR27 gO27 nR nO q1 q2 q3 gLs27 nLs6 (by omega) gLp27 nLp' hpl27 hPP pn27 ⟨np0, np1, np2⟩ ps27 ms pg27 mg' hkept nh27 nt27 nhd27 tn27 no27 good1 fun σ' H' hp => ?_
          obtain ⟨y5, y8, y9, y10, Lg, e1, e2, e3, rfl, d', r', l', n', a1, a2, a3, tb'⟩ := hp
          exact ⟨_, _, _, _, _, _, _, _, _, _, _, _, _, _, _, _, _, _, _, Lg, e1, e2, e3, rfl, d'.more (by omega), r', l', n', a1, a2, a3, tb'⟩
  · rintro σ' H' _
    rfl
end
end Fg
set_option Elab.async false
set_option linter.all false
set_option maxRecDepth 100000
set_option maxHeartbeats 2000000
/-! D23: the law as a def, and its call from the claim's caller. -/
namespace Fg
open PySem PySem.Spec PyProof.Rows L2 LamX
def lawC (K : PySem.W.Frag) : Addr := (He.cT K ("law", none)).1
def lawT (K : PySem.W.Frag) : Addr := (He.cT K ("law", none)).2
def sp_law (K : PySem.W.Frag) : Sp := fun vs H Q _ => ∃ (a : Addr) (ns : List Int), vs = [.ref a] ∧ H (lawT K) = some (.tbl #[]) ∧ SqL K H a (ns.map V.int) ∧ ns.length ≤ 63 ∧ (∀ z ∈ ns, Builtin.Int.intBits z ≤ 1048576) ∧ Q = fun v _ => v = .bl true
section
variable {P : Program} {w : World} {K : PySem.W.Frag} {mg : Str → Option Value} {base : Heap}
theorem ok_law (T : Tx w K mg) (TB : TabB base mg (lawC K) (lawT K)) : DefG P w K mg base "law" 30 (sp_law K) := by
  obtain ⟨fd, F⟩ := T.q_law
  refine DefG.of (ps := ["_law_script"]) F T.g_law (fun _ _ _ _ _ _ us hl => match us, hl with | [_], _ => rfl) ?_
  obtain ⟨oc, od, dV, kV, doc, pm, an, cdv, ct, osl, rfl, lk, hcd, _, _⟩ := F.ex
  obtain ⟨c, rfl⟩ := He.codeIn_ref hcd
  have hc : lawC K = c := He.codeOf_eq (p := ("law", none)) lk rfl
  rw [hc] at TB
  refine ⟨fun vs H Q E h => ?_, fun A outer s H args us vs Q E hg hr e0 hb r hsp => ?_⟩
  · obtain ⟨a, ns, rfl, _⟩ := h
    rfl
  · refine LamX.run_ofS lk hcd sc_law hr e0 hb r ?_ fun hr' => ?_
    · obtain ⟨a, ns, rfl, _⟩ := hsp
      rfl
    · obtain ⟨a, ns, rfl, hT, hS, hl, hbits, rfl⟩ := hsp
      obtain ⟨t, h1, h2⟩ := law_body (P := P) (A := A) (outer := outer) (s := s) (H := H) (E := E) T (by exact hg) TB hr' hT hS hl hbits
      have e : (fun (_ : L2.St) (H' : Hp) => (V.non = V.bl true)) = fun _ _ => False := by
        funext _ _
        exact eq_false (fun z => by cases z)
      refine ⟨t, h1.nox, ?_⟩
      show t { nx := fun (_ : L2.St) (H' : Hp) => (V.non = V.bl true), rt := fun v _ => v = .bl true } _ _
      rw [e]
      exact h2
/-! ### what is tracked as the call begins -/
def hp0 (K : PySem.W.Frag) (Pt a : Addr) (ob : Obj) (xs : List V) : Hp := fun b => if b = Pt then some (.tbl #[]) else if b = a ∧ (K.lookup a).isNone = true then some (.frz ob (.lst xs)) else none
section
variable {Pt a b : Addr} {ob : Obj} {xs : List V}
theorem hp0_tab : hp0 K Pt a ob xs Pt = some (.tbl #[]) := if_pos rfl
theorem hp0_by : b = Pt ∨ (b = a ∧ K.lookup a = none ∧ hp0 K Pt a ob xs b = some (.frz ob (.lst xs))) ∨ ((b = a → K.lookup a ≠ none) ∧ hp0 K Pt a ob xs b = none) := by
  unfold hp0
  by_cases h1 : b = Pt
  · exact .inl h1
  · refine .inr ?_
    by_cases h2 : b = a ∧ (K.lookup a).isNone = true
    · exact .inl ⟨h2.1, Option.isNone_iff_eq_none.mp h2.2, by rw [if_neg h1, if_pos h2]⟩
    · exact .inr ⟨fun e z => h2 ⟨e, by rw [z]; rfl⟩, by rw [if_neg h1, if_neg h2]⟩
theorem hp0_off (h1 : b ≠ Pt) (h2 : b ≠ a) : hp0 K Pt a ob xs b = none := by
  rcases hp0_by (K := K) (Pt := Pt) (a := a) (b := b) (ob := ob) (xs := xs) with e | ⟨e, _⟩ | ⟨_, e⟩
  · exact absurd e h1
  · exact absurd e h2
  · exact e
end
end
theorem law_runs {l : PySem.W.OpenLaw} {q : Program} {loose : List Str} {XP : (Str → Option Value) → Heap → Prop} {w : World} {s₀ s₁ : Shared} {mg mb : Str → Option Value} {K : PySem.W.Frag} {fa' a : Addr} {vs : List Value} {ns : List Int} (G : PySem.W.Ground q loose [] XP w s₀ mg mb s₁.heap)
    (KX : K.In s₁.heap) (c : He.SaysX fa fn ts tf exB w s₁.heap K) (hmg : mg ("law" : Str) = some (.ref fa')) (ho : s₁.heap.get? a = some { cls := .type "list", data := .seq vs.toArray }) (hi : PyProof.Rows.IntsAre vs ns) (hl : ns.length ≤ 63)
    (hbits : ∀ z ∈ ns, Builtin.Int.intBits z ≤ 1048576) (hg : s₁.gens = #[]) (hr : Room 30 callerA) :
    codeAny (model l.prog w) callerA (.call (.ref fa') ⟨[.ref a], []⟩) (fun r s' => r = .ok (.ret (.bool true)) ∧ OldK s₁.heap s'.heap ∧ s'.os = s₁.os ∧ AllBare s'.gens) s₁ := by
  have T := Tx.of KX G.T.g c
  have hT : s₁.heap.get? (lawT K) = some { cls := .none, data := .fields #[] } := c.empty _ (List.mem_singleton.mpr rfl)
  have nT : K.lookup (lawT K) = none := c.out _ (List.mem_singleton.mpr rfl)
  have hC : PySem.W.codeHdIn K (lawC K) (lawT K) = true := c.hd _ (List.mem_singleton.mpr rfl)
  have rv := vals_ints hi
  have hsz : (ns.map V.int).length ≤ sizeLine := by
    rw [List.length_map]
    exact Nat.le_trans hl (by decide)
  have isH : ∀ {b : Addr}, b = lawT K ∨ (b = a ∧ K.lookup a = none ∧ hp0 K (lawT K) a { cls := .type "list", data := .seq vs.toArray } (ns.map V.int) b = some (.frz { cls := .type "list", data := .seq vs.toArray } (.lst (ns.map V.int)))) ∨ ((b = a → K.lookup a ≠ none) ∧ hp0 K (lawT K) a { cls := .type "list", data := .seq vs.toArray } (ns.map V.int) b = none) := hp0_by
  have atT : hp0 K (lawT K) a { cls := .type "list", data := .seq vs.toArray } (ns.map V.int) (lawT K) = some (.tbl #[]) := hp0_tab
  have off : ∀ {b : Addr}, b ≠ lawT K → b ≠ a → hp0 K (lawT K) a { cls := .type "list", data := .seq vs.toArray } (ns.map V.int) b = none := hp0_off
  generalize hp0 K (lawT K) a { cls := .type "list", data := .seq vs.toArray } (ns.map V.int) = H at *
  have seen : ∀ {b : Addr} {o : Obj}, s₁.heap.get? b = some o → (∀ us, o.data ≠ .fields us) → (∀ us n, o.data ≠ .seq us n) → (hidT s₁.heap H).get? b = some o := fun {b o} e h1 h2 => by
    refine hidT_get e (off (fun z => ?_) fun z => ?_)
    · rw [z, hT] at e
      exact h1 _ (by rw [← Option.some.inj e])
    · rw [z, ho] at e
      exact h2 _ _ (by rw [← Option.some.inj e])
  have nss : ∀ {b : Addr} {m : Str → Option Value}, s₁.heap.Ns b m → (hidT s₁.heap H).Ns b m := fun {b m} ⟨o, es, ep, e, d, r⟩ => ⟨o, es, ep, seen e (fun us z => by rw [d] at z; cases z) (fun us n z => by rw [d] at z; cases z), d, r⟩
  have KB : K.In (hidT s₁.heap H) := fun b o e => by
    refine hidT_get (KX b o e) ?_
    rcases isH (b := b) with z | ⟨z, k, _⟩ | ⟨_, z⟩
    · rw [z, nT] at e
      cases e
    · rw [z, k] at e
      cases e
    · exact z
  have gT : mainGlobals ≠ lawT K := fun z => by
    obtain ⟨o, es, ep, e, d, _⟩ := G.T.g
    rw [z, hT] at e
    cases e
    cases d
  have hbm : (hidT s₁.heap H).BuiltinsAt mg (lawT K) := by
    obtain ⟨bm, ob, b1, b2, b3, b4, b5, b6⟩ := G.T.bmain
    refine ⟨bm, ob, b1, b2, fun z => ?_, fun z => ?_, seen b3 (fun us z => by rw [b6] at z; cases z) (fun us n z => by rw [b6] at z; cases z), b4, b5, b6⟩
    · obtain ⟨o, es, ep, e, d, _⟩ := G.T.g
      rw [z, e] at b3
      cases b3
      rw [d] at b6
      cases b6
    · rw [z, hT] at b3
      cases b3
      cases b6
  have TB : TabB (hidT s₁.heap H) mg (lawC K) (lawT K) := ⟨PySem.W.codeHd_of_K KB hC, hbm, gT⟩
  have hok : HOk l.prog w H s₁.heap := fun b o e => by
    rcases isH (b := b) with z | ⟨z, _, k⟩ | ⟨_, k⟩
    · rw [z] at e ⊢
      rw [atT] at e
      cases e
      exact hT
    · rw [k] at e
      cases e
      rw [z]
      exact ⟨ho, hsz, vs, _, rv, ho⟩
    · rw [k] at e
      cases e
  have hM : L2.Mod K mg (hidT s₁.heap H) := by
    refine ⟨KB, nss G.T.g, ⟨mb, nss G.T.b, G.T.builtins⟩, ?_⟩
    obtain ⟨mc, h1, h2⟩ := G.T.nolimit
    exact ⟨mc, nss h1, h2⟩
  have e0 : Env0 l.prog w K mg (hidT s₁.heap H) callerA [] s₁ H := ⟨rfl, hM, fun _ _ e => of_hidT e, by rw [hidT_size]; exact Nat.le_refl _, trivial, fun b hb => (nomatch hb), hok, .of_eq hg⟩
  have hS : SqL K H a (ns.map V.int) := by
    cases hk : K.lookup a with
    | none =>
      rcases isH (b := a) with z | ⟨_, _, k⟩ | ⟨k, _⟩
      · rw [z, hT] at ho
        cases ho
      · exact .inl (.inr ⟨_, k⟩)
      · exact absurd hk (k rfl)
    | some o =>
      have e := KX a o hk
      rw [ho] at e
      cases e
      refine .inr ⟨_, vs.toArray, _, hk, rfl, rfl, rfl, ?_, by simpa using rv⟩
      rw [List.size_toArray, ← rv.length]
      exact hsz
  obtain ⟨f, fd, ps, gf, kp, hb, F⟩ := ok_law (P := l.prog) T TB
  rw [hmg] at gf
  obtain rfl : fa' = f := by injection (Option.some.inj gf)
  have spl : sp_law K [.ref a] H (fun v _ => v = .bl true) fun _ _ _ => False := ⟨a, ns, rfl, atT, hS, hl, hbits, rfl⟩
  have hlen := F.len _ _ _ _ spl
  have hbt := hb s₁ [.ref a] KX (by rw [List.append_nil]; exact hlen)
  rw [List.append_nil] at hbt
  refine codeAny_mono (F.run callerA [] s₁ H ⟨[.ref a], []⟩ [.ref a] [.ref a] _ _ rfl hr e0 hbt (.cons rfl .nil) spl) fun r s' h => ?_
  match r, h with
  | .error e, h => exact h.elim
  | .ok .next, h => exact h.elim
  | .ok .brk, h => exact h.elim
  | .ok .cont, h => exact h.elim
  | .ok (.ret u), h =>
    obtain ⟨v, H', os, bare, un, hok', r', hv⟩ := h
    have hv' : v = V.bl true := hv
    subst hv'
    obtain rfl : u = Value.bool true := r'
    obtain ⟨more, zt⟩ := un.tbls _ _ atT
    have grown : s'.heap.get? (lawT K) = some { cls := .none, data := .fields (#[] ++ more) } := hok' _ _ zt
    have kept : ∀ b o, b ≠ lawT K → s₁.heap.get? b = some o → s'.heap.get? b = some o := fun b o nb e => by
      rcases isH (b := b) with z | ⟨z, _, k⟩ | ⟨_, k⟩
      · exact absurd z nb
      · obtain ⟨x1, _⟩ := hok' _ _ (un.frzs b _ _ k)
        rw [z, ho] at e
        cases e
        exact x1
      · exact un.keep b o e k (fun z => nomatch z) (fun z => nomatch z)
    refine ⟨rfl, ⟨fun b o e => ?_, fun b o e => ?_⟩, os, bare⟩
    · by_cases nb : b = lawT K
      · rw [nb] at e ⊢
        rw [hT] at e
        cases e
        exact .inr (.inl ⟨((PySem.W.codeHd_of_K KX hC).tab hT).isCodeTable, rfl, _, more, rfl, grown⟩)
      · exact .inl (kept b o nb e)
    · by_cases nb : b = lawT K
      · exact ⟨_, nb ▸ grown⟩
      · exact ⟨o, kept b o nb e⟩
end Fg
set_option Elab.async false
set_option linter.all false
set_option maxRecDepth 100000
set_option maxHeartbeats 0
open PySem PySem.W PySem.Calls PyProof.Rows
theorem PySem.Challenge.cw_figuretexts_k96_whole_spoilt_anywhere_holds : PySem.Challenge.rw_figuretexts_k96_whole_spoilt_anywhere.Holds := by
  w_on; o_law
  refine HandSHeadRun.head_any (r := Fg.R) (q := PySem.W.view Fg.R.prog [74]) (H := Fg.hk) (ob := Fg.ob) (M := 20000) (loose := Fg.loose) (d := HandSHeadRun.topDef Fg.R.prog 74) (kwd := []) Fg.ob_eq
    (by kernel_rfl) (fun s => by kernel_rfl) Fg.run (by kernel_rfl) (by kernel_rfl) (by kernel_rfl) (by rfl) (by first | assumption | decide +kernel) (by decide +kernel) ⟨rfl, rfl, rfl, rfl, rfl, by decide +kernel⟩ ?hw ?hc
  case hw => w_witness2
  case hc =>
    refine Att.attach_callB (l := PySem.Challenge.rw_figuretexts_k96_whole_spoilt_anywhere) (n := 63) rfl (by kernel_rfl) fun w s₀ s₁ mg mb fa' o pm cd doc a vs ns G Y ho hd hcd hmg0 hobj hints hlen hbits hg => ?_
    obtain ⟨K, KX, c⟩ := Y
    have hmg : mg ("law" : PySem.Str) = some (.ref fa') := by
      have e : (HandSHeadRun.topDef Fg.R.prog 74).name = ("law" : PySem.Str) := by kernel_rfl
      rw [← e]
      exact hmg0
    exact Fg.law_runs G KX c hmg hobj hints hlen hbits hg ⟨rfl, by decide, by decide⟩
