import PyProof.Rows.All
import Wide.All
import OpenK.AllK
import Wide.FinOn
import KE.KStateDown
import HandS.Base
import HandS.Call
import HandS.Ends
import HandS.More
import HandS.Words
import HandS.WordsExc
import HandS.Defaults
import HandS.Head0
import HandS.Head1
import HandS.Head2
import HandS.HeadEnd
import HandS.HeadHook1
import HandS.HeadHook2
import PySem.Challenge.RW_wholestakes_k68_whole_slopes_by_all_stak
import HandS.ForMost
import HandS.DictComp
import HandS.Walk
import HandS.Zip0
import HandS.TupLen
import HandS.TupAny
import HandS.IsInst
import HandS.Codes
import HandS.Conv
import HandS.Style
import HandS.Evl
import HandS.Wide
import HandS.Exc
import HandS.ExcOwn
import KE.GoesMore
import KE.GoesZip
import KE.GoesEnum
import KE.LtData
import KE.SortData
import KE.DataMinMax
import KE.DatumOrd
import HandS.HeadNt
set_option Elab.async false
set_option linter.all false
set_option maxRecDepth 100000
set_option maxHeartbeats 0
/-! the text by places, the head's facts -/
namespace K68
open PySem PySem.Spec PyProof.Rows L2
def top (i : Nat) : Stmt := PySem.Challenge.pw_wholestakes_k68_whole_slopes_by_all_stak.main.body.getD i (.Pass ⟨0, 0, 0, 0⟩)

abbrev s_is_integer : Stmt := top 7
abbrev s_is_within : Stmt := top 8
abbrev s_is_letter : Stmt := top 9
abbrev s_are_ascending : Stmt := top 10
abbrev s_rounded_up : Stmt := top 11
abbrev s_is_arrow : Stmt := top 16
abbrev s_are_arrows : Stmt := top 17
abbrev s_Tinit : Stmt := inClass (top 18) 0
abbrev s_Tkeep : Stmt := inClass (top 18) 1
abbrev s_is_place : Stmt := top 19
abbrev s_check_place : Stmt := top 20
abbrev s_steps_of : Stmt := top 21
abbrev s_reached_from : Stmt := top 22
abbrev s_weight : Stmt := top 25
abbrev s_weight_back : Stmt := top 26
abbrev s_ranks_of : Stmt := top 27
abbrev s_full_places : Stmt := top 28
abbrev s_hopeful_places : Stmt := top 29
abbrev s_told_pairs : Stmt := top 31
abbrev s_least_stake : Stmt := top 32
abbrev s_total : Stmt := top 33
abbrev s_must_keep : Stmt := top 34
abbrev s_best_within : Stmt := top 35
abbrev s_needed_within : Stmt := top 36
abbrev s_pairs_with : Stmt := top 38
abbrev s_raised_by : Stmt := top 39
abbrev s_by_place : Stmt := top 40
abbrev s_check_limit : Stmt := top 43
abbrev s_gaining_within : Stmt := top 44
abbrev s_stays_within : Stmt := top 45
abbrev s_greatest_stay_within : Stmt := top 46
abbrev s_not_above : Stmt := top 47
abbrev s_least_by_place_within : Stmt := top 48
abbrev s_least_by : Stmt := top 49
abbrev s_least_coins_within : Stmt := top 50
abbrev s_fewest_laid : Stmt := top 52
abbrev s_can_reach : Stmt := top 53
abbrev s_needs_for : Stmt := top 54
abbrev s_is_slope_at : Stmt := top 55
abbrev s_is_numbers : Stmt := top 56
abbrev s_is_slope : Stmt := top 57
abbrev s_greatest_aim : Stmt := top 58
abbrev s_slope_of : Stmt := top 59
abbrev s_slope : Stmt := top 60
abbrev s__law_pool : Stmt := top 62
abbrev s__law_draw : Stmt := top 63
abbrev s__law_signs : Stmt := top 64
abbrev s__law_bound : Stmt := top 65
abbrev s__law_mild : Stmt := top 66
abbrev s__law_told : Stmt := top 67
abbrev s__law_track : Stmt := top 68
abbrev s__law_steps : Stmt := top 69
abbrev s__law_flag : Stmt := top 70
abbrev s__law_stakes : Stmt := top 71
abbrev s__law_is_slope : Stmt := top 72
abbrev s__law_holding : Stmt := top 73
abbrev s_law : Stmt := top 74
def d_is_integer : He.DefD := ⟨("is_integer", none), "is_integer", "is_integer", defArgs s_is_integer, defBody s_is_integer, defScope s_is_integer, [], []⟩
def d_is_within : He.DefD := ⟨("is_within", none), "is_within", "is_within", defArgs s_is_within, defBody s_is_within, defScope s_is_within, [], []⟩
def d_is_letter : He.DefD := ⟨("is_letter", none), "is_letter", "is_letter", defArgs s_is_letter, defBody s_is_letter, defScope s_is_letter, [], []⟩
def d_are_ascending : He.DefD := ⟨("are_ascending", none), "are_ascending", "are_ascending", defArgs s_are_ascending, defBody s_are_ascending, defScope s_are_ascending, [], []⟩
def d_rounded_up : He.DefD := ⟨("rounded_up", none), "rounded_up", "rounded_up", defArgs s_rounded_up, defBody s_rounded_up, defScope s_rounded_up, [], []⟩
def d_is_arrow : He.DefD := ⟨("is_arrow", none), "is_arrow", "is_arrow", defArgs s_is_arrow, defBody s_is_arrow, defScope s_is_arrow, [], []⟩
def d_are_arrows : He.DefD := ⟨("are_arrows", none), "are_arrows", "are_arrows", defArgs s_are_arrows, defBody s_are_arrows, defScope s_are_arrows, [], []⟩
def d_Tinit : He.DefD := ⟨("Track", some "__init__"), "__init__", "Track.__init__", defArgs s_Tinit, defBody s_Tinit, defScope s_Tinit, [], []⟩
def d_Tkeep : He.DefD := ⟨("Track", some "keep"), "keep", "Track.keep", defArgs s_Tkeep, defBody s_Tkeep, defScope s_Tkeep, [], []⟩
def d_is_place : He.DefD := ⟨("is_place", none), "is_place", "is_place", defArgs s_is_place, defBody s_is_place, defScope s_is_place, [], []⟩
def d_check_place : He.DefD := ⟨("check_place", none), "check_place", "check_place", defArgs s_check_place, defBody s_check_place, defScope s_check_place, [], []⟩
def d_steps_of : He.DefD := ⟨("steps_of", none), "steps_of", "steps_of", defArgs s_steps_of, defBody s_steps_of, defScope s_steps_of, [], []⟩
def d_reached_from : He.DefD := ⟨("reached_from", none), "reached_from", "reached_from", defArgs s_reached_from, defBody s_reached_from, defScope s_reached_from, [], []⟩
def d_weight : He.DefD := ⟨("weight", none), "weight", "weight", defArgs s_weight, defBody s_weight, defScope s_weight, [], []⟩
def d_weight_back : He.DefD := ⟨("weight_back", none), "weight_back", "weight_back", defArgs s_weight_back, defBody s_weight_back, defScope s_weight_back, [], []⟩
def d_ranks_of : He.DefD := ⟨("ranks_of", none), "ranks_of", "ranks_of", defArgs s_ranks_of, defBody s_ranks_of, defScope s_ranks_of, [], []⟩
def d_full_places : He.DefD := ⟨("full_places", none), "full_places", "full_places", defArgs s_full_places, defBody s_full_places, defScope s_full_places, [], []⟩
def d_hopeful_places : He.DefD := ⟨("hopeful_places", none), "hopeful_places", "hopeful_places", defArgs s_hopeful_places, defBody s_hopeful_places, defScope s_hopeful_places, [], []⟩
def d_told_pairs : He.DefD := ⟨("told_pairs", none), "told_pairs", "told_pairs", defArgs s_told_pairs, defBody s_told_pairs, defScope s_told_pairs, [], []⟩
def d_least_stake : He.DefD := ⟨("least_stake", none), "least_stake", "least_stake", defArgs s_least_stake, defBody s_least_stake, defScope s_least_stake, [], []⟩
def d_total : He.DefD := ⟨("total", none), "total", "total", defArgs s_total, defBody s_total, defScope s_total, [], []⟩
def d_must_keep : He.DefD := ⟨("must_keep", none), "must_keep", "must_keep", defArgs s_must_keep, defBody s_must_keep, defScope s_must_keep, [], []⟩
def d_best_within : He.DefD := ⟨("best_within", none), "best_within", "best_within", defArgs s_best_within, defBody s_best_within, defScope s_best_within, [], []⟩
def d_needed_within : He.DefD := ⟨("needed_within", none), "needed_within", "needed_within", defArgs s_needed_within, defBody s_needed_within, defScope s_needed_within, [], []⟩
def d_pairs_with : He.DefD := ⟨("pairs_with", none), "pairs_with", "pairs_with", defArgs s_pairs_with, defBody s_pairs_with, defScope s_pairs_with, [], []⟩
def d_raised_by : He.DefD := ⟨("raised_by", none), "raised_by", "raised_by", defArgs s_raised_by, defBody s_raised_by, defScope s_raised_by, [], []⟩
def d_by_place : He.DefD := ⟨("by_place", none), "by_place", "by_place", defArgs s_by_place, defBody s_by_place, defScope s_by_place, [], []⟩
def d_check_limit : He.DefD := ⟨("check_limit", none), "check_limit", "check_limit", defArgs s_check_limit, defBody s_check_limit, defScope s_check_limit, [], []⟩
def d_gaining_within : He.DefD := ⟨("gaining_within", none), "gaining_within", "gaining_within", defArgs s_gaining_within, defBody s_gaining_within, defScope s_gaining_within, [], []⟩
def d_stays_within : He.DefD := ⟨("stays_within", none), "stays_within", "stays_within", defArgs s_stays_within, defBody s_stays_within, defScope s_stays_within, [], []⟩
def d_greatest_stay_within : He.DefD := ⟨("greatest_stay_within", none), "greatest_stay_within", "greatest_stay_within", defArgs s_greatest_stay_within, defBody s_greatest_stay_within, defScope s_greatest_stay_within, [], []⟩
def d_not_above : He.DefD := ⟨("not_above", none), "not_above", "not_above", defArgs s_not_above, defBody s_not_above, defScope s_not_above, [], []⟩
def d_least_by_place_within : He.DefD := ⟨("least_by_place_within", none), "least_by_place_within", "least_by_place_within", defArgs s_least_by_place_within, defBody s_least_by_place_within, defScope s_least_by_place_within, [], []⟩
def d_least_by : He.DefD := ⟨("least_by", none), "least_by", "least_by", defArgs s_least_by, defBody s_least_by, defScope s_least_by, [], []⟩
def d_least_coins_within : He.DefD := ⟨("least_coins_within", none), "least_coins_within", "least_coins_within", defArgs s_least_coins_within, defBody s_least_coins_within, defScope s_least_coins_within, [], []⟩
def d_fewest_laid : He.DefD := ⟨("fewest_laid", none), "fewest_laid", "fewest_laid", defArgs s_fewest_laid, defBody s_fewest_laid, defScope s_fewest_laid, [], []⟩
def d_can_reach : He.DefD := ⟨("can_reach", none), "can_reach", "can_reach", defArgs s_can_reach, defBody s_can_reach, defScope s_can_reach, [], []⟩
def d_needs_for : He.DefD := ⟨("needs_for", none), "needs_for", "needs_for", defArgs s_needs_for, defBody s_needs_for, defScope s_needs_for, [], []⟩
def d_is_slope_at : He.DefD := ⟨("is_slope_at", none), "is_slope_at", "is_slope_at", defArgs s_is_slope_at, defBody s_is_slope_at, defScope s_is_slope_at, [], []⟩
def d_is_numbers : He.DefD := ⟨("is_numbers", none), "is_numbers", "is_numbers", defArgs s_is_numbers, defBody s_is_numbers, defScope s_is_numbers, [], []⟩
def d_is_slope : He.DefD := ⟨("is_slope", none), "is_slope", "is_slope", defArgs s_is_slope, defBody s_is_slope, defScope s_is_slope, [], []⟩
def d_greatest_aim : He.DefD := ⟨("greatest_aim", none), "greatest_aim", "greatest_aim", defArgs s_greatest_aim, defBody s_greatest_aim, defScope s_greatest_aim, [], []⟩
def d_slope_of : He.DefD := ⟨("slope_of", none), "slope_of", "slope_of", defArgs s_slope_of, defBody s_slope_of, defScope s_slope_of, [], []⟩
def d_slope : He.DefD := ⟨("slope", none), "slope", "slope", defArgs s_slope, defBody s_slope, defScope s_slope, [], []⟩
def d__law_pool : He.DefD := ⟨("_law_pool", none), "_law_pool", "_law_pool", defArgs s__law_pool, defBody s__law_pool, defScope s__law_pool, [], []⟩
def d__law_draw : He.DefD := ⟨("_law_draw", none), "_law_draw", "_law_draw", defArgs s__law_draw, defBody s__law_draw, defScope s__law_draw, [], []⟩
def d__law_signs : He.DefD := ⟨("_law_signs", none), "_law_signs", "_law_signs", defArgs s__law_signs, defBody s__law_signs, defScope s__law_signs, [], []⟩
def d__law_bound : He.DefD := ⟨("_law_bound", none), "_law_bound", "_law_bound", defArgs s__law_bound, defBody s__law_bound, defScope s__law_bound, [], []⟩
def d__law_mild : He.DefD := ⟨("_law_mild", none), "_law_mild", "_law_mild", defArgs s__law_mild, defBody s__law_mild, defScope s__law_mild, [], []⟩
def d__law_told : He.DefD := ⟨("_law_told", none), "_law_told", "_law_told", defArgs s__law_told, defBody s__law_told, defScope s__law_told, [], []⟩
def d__law_track : He.DefD := ⟨("_law_track", none), "_law_track", "_law_track", defArgs s__law_track, defBody s__law_track, defScope s__law_track, [], []⟩
def d__law_steps : He.DefD := ⟨("_law_steps", none), "_law_steps", "_law_steps", defArgs s__law_steps, defBody s__law_steps, defScope s__law_steps, [], []⟩
def d__law_flag : He.DefD := ⟨("_law_flag", none), "_law_flag", "_law_flag", defArgs s__law_flag, defBody s__law_flag, defScope s__law_flag, [], []⟩
def d__law_stakes : He.DefD := ⟨("_law_stakes", none), "_law_stakes", "_law_stakes", defArgs s__law_stakes, defBody s__law_stakes, defScope s__law_stakes, [], []⟩
def d__law_is_slope : He.DefD := ⟨("_law_is_slope", none), "_law_is_slope", "_law_is_slope", defArgs s__law_is_slope, defBody s__law_is_slope, defScope s__law_is_slope, [], []⟩
def d__law_holding : He.DefD := ⟨("_law_holding", none), "_law_holding", "_law_holding", defArgs s__law_holding, defBody s__law_holding, defScope s__law_holding, [], []⟩
def d_law : He.DefD := ⟨("law", none), "law", "law", defArgs s_law, defBody s_law, defScope s_law, [], []⟩
def hfn : List He.DefD := [d_is_integer, d_is_within, d_is_letter, d_are_ascending, d_rounded_up, d_is_arrow, d_are_arrows, d_Tinit, d_Tkeep, d_is_place, d_check_place, d_steps_of, d_reached_from, d_weight, d_weight_back, d_ranks_of, d_full_places, d_hopeful_places, d_told_pairs, d_least_stake, d_total, d_must_keep, d_best_within, d_needed_within, d_pairs_with, d_raised_by, d_by_place, d_check_limit, d_gaining_within, d_stays_within, d_greatest_stay_within, d_not_above, d_least_by_place_within, d_least_by, d_least_coins_within, d_fewest_laid, d_can_reach, d_needs_for, d_is_slope_at, d_is_numbers, d_is_slope, d_greatest_aim, d_slope_of, d_slope, d__law_pool, d__law_draw, d__law_signs, d__law_bound, d__law_mild, d__law_told, d__law_track, d__law_steps, d__law_flag, d__law_stakes, d__law_is_slope, d__law_holding, d_law]
def hfa0 : List He.Fa := [.glo "is_integer", .glo "is_within", .glo "is_letter", .glo "are_ascending", .glo "rounded_up", .glo "is_arrow", .glo "are_arrows", .glo "is_place", .glo "check_place", .glo "steps_of", .glo "reached_from", .glo "weight", .glo "weight_back", .glo "ranks_of", .glo "full_places", .glo "hopeful_places", .glo "told_pairs", .glo "least_stake", .glo "total", .glo "must_keep", .glo "best_within", .glo "needed_within", .glo "pairs_with", .glo "raised_by", .glo "by_place", .glo "check_limit", .glo "gaining_within", .glo "stays_within", .glo "greatest_stay_within", .glo "not_above"]
def hfa1 : List He.Fa := [.glo "least_by_place_within", .glo "least_by", .glo "least_coins_within", .glo "fewest_laid", .glo "can_reach", .glo "needs_for", .glo "is_slope_at", .glo "is_numbers", .glo "is_slope", .glo "greatest_aim", .glo "slope_of", .glo "slope", .glo "_law_pool", .glo "_law_draw", .glo "_law_signs", .glo "_law_bound", .glo "_law_mild", .glo "_law_told", .glo "_law_track", .glo "_law_steps", .glo "_law_flag", .glo "_law_stakes", .glo "_law_is_slope", .glo "_law_holding", .glo "law", .glo "Track", .free "len", .free "isinstance", .free "int", .free "bool"]
def hfa2 : List He.Fa := [.free "str", .free "tuple", .free "range", .free "sum", .free "any", .free "all", .free "min", .free "max", .free "sorted", .free "enumerate", .free "zip", .free "list", .free "abs", .int "MOST_PLACES" 12, .int "MOST_ARROWS" 60, .int "MOST_PAY" 9, .int "WHOLE" 2520, .int "MOST_LIMIT" 100, .str "LETTERS" "abcdefghijklmnopqrstuvwxyz", .cls "Track", .mkr "Track", .meth "Track" "keep", .noat "Track" "places", .noat "Track" "arrows", .noat "Track" "kept_arrows"]
def hfa : List He.Fa := hfa0 ++ hfa1 ++ hfa2
def loose0 : List PySem.Str := ["StakeError", "BadTrack", "NoPlace", "NoLimit", "LETTERS", "MOST_PLACES", "MOST_ARROWS", "MOST_PAY", "Track", "WHOLE", "MOST_LIMIT", "is_integer", "is_within", "is_letter", "are_ascending", "rounded_up", "is_arrow", "are_arrows", "is_place", "check_place", "steps_of", "reached_from", "weight", "weight_back", "ranks_of", "full_places", "hopeful_places", "told_pairs", "least_stake", "total"]
def loose1 : List PySem.Str := ["must_keep", "best_within", "needed_within", "pairs_with", "raised_by", "by_place", "check_limit", "gaining_within", "stays_within", "greatest_stay_within", "not_above", "least_by_place_within", "least_by", "least_coins_within", "fewest_laid", "can_reach", "needs_for", "is_slope_at", "is_numbers", "is_slope", "greatest_aim", "slope_of", "slope", "_law_pool", "_law_draw", "_law_signs", "_law_bound", "_law_mild", "_law_told", "_law_track"]
def loose2 : List PySem.Str := ["_law_steps", "_law_flag", "_law_stakes", "_law_is_slope", "_law_holding"]
def loose : List PySem.Str := loose0 ++ loose1 ++ loose2
abbrev R : PySem.W.OpenRow := PySem.W.OpenLaw.row PySem.Challenge.rw_wholestakes_k68_whole_slopes_by_all_stak
abbrev hk : PySem.W.Hook := He.hookD 5 hfa hfn
def ob (s : PySem.W.SharedT) : He.AlD := He.obsDG 5 hfa hfn (HandSHeadRun.getT s)
theorem ob_eq (s : PySem.W.SharedT) : ob s = hk.obs s.abs := He.obsDG_eq (HandSHeadRun.getT_eq s)
theorem run (w : World) : HandSHeadRun.RunEq R (PySem.W.view R.prog [74]) hk ob 6000 loose w := by
  intro os
  kernel_rfl
end K68
set_option maxRecDepth 100000
set_option maxHeartbeats 4000000
/-! Rules that the walks need beside the layer's: enumerate(tuple), zip(list, tuple), y = {..}, dicts keyed by tuples, order, sorted and min of data. -/
namespace K68
open PySem PySem.Spec PyProof.Rows L2

/-! ### enumerate over a tuple -/
/-- what it gives, as long as the tuple at t is read -/
def IteT (K : PySem.W.Frag) (t : Addr) : It where
  go i H := ∃ (l : List V) (v : V), SqT K H t l ∧ l[i]? = some v
  yld i H r H2 := ∃ T v, r = .ref T ∧ H T = none ∧ H2 = upd H T (.tup [.int (i : Nat), v]) ∧ ∀ l, SqT K H t l → l[i]? = some v
  stop i H := ∃ l : List V, SqT K H t l ∧ l.length ≤ i
/-- an iterator's record, an enumerate's record: no tuple's address -/
theorem iter_ne {h : Heap} {it t : Addr} {i : Nat} {l : Array Value} (a : h.IsTupleIter it t i) (b : h.IsTuple t l) : t ≠ it := fun z => by
  obtain ⟨o, ho, hc, _⟩ := a
  obtain ⟨o2, ho2, hc2, _⟩ := b
  rw [z, ho] at ho2
  rw [← Option.some.inj ho2, hc] at hc2
  exact absurd hc2 (by decide)
theorem enum_ne {h : Heap} {e it t : Addr} {i : Int} {old : Value} {l : Array Value} (a : IsEnum h e it i old) (b : h.IsTuple t l) : e ≠ t := fun z => by
  obtain ⟨o2, ho2, hc2, _⟩ := b
  have a1 : h.get? e = some _ := a
  rw [z, ho2] at a1
  rw [Option.some.inj a1] at hc2
  have hc3 : Value.type "enumerate" = Value.type "tuple" := hc2
  exact absurd hc3 (by decide)
/-- its two records between two turns -/
def EnT (t e it : Addr) (i : Nat) (h : Heap) : Prop := (∃ old, IsEnum h e it ((i : Nat) : Int) old) ∧ h.IsTupleIter it t i ∧ e ≠ it
theorem EnT.lt {t e it : Addr} {i : Nat} {h : Heap} (a : EnT t e it i h) {b : Addr} (hb : b ∈ [e, it]) : b < h.objs.size := by
  obtain ⟨⟨_, x⟩, ⟨_, y, _⟩, _⟩ := a
  rcases List.mem_cons.mp hb with z | z
  · exact z ▸ Heap.lt_size x
  · exact List.mem_singleton.mp z ▸ Heap.lt_size y
theorem turn_enumT {P : Program} {w : World} {K : PySem.W.Frag} {elts : List Expr} {kk : Nat} {tpos : Pos} (t e it : Addr) : Turn P w K (.Tuple elts kk tpos) (IteT K t) [e, it] e (EnT t e it) where
  mem := List.mem_cons_self
  self := fun A i s Q E a h => wpAny_pyIter_enum a.1.choose_spec h
  keep := fun i h h2 a k => ⟨a.1.imp fun _ x => k e List.mem_cons_self _ x, a.2.1.at fun o q => k it (List.mem_cons_of_mem _ List.mem_cons_self) o q, a.2.2⟩
  obj := fun i h a b hb => by
    obtain ⟨⟨_, x⟩, ⟨o, y, _, d⟩, _⟩ := a
    rcases List.mem_cons.mp hb with z | z
    · rw [z]; exact ⟨_, x, fun _ q => nomatch q⟩
    · exact ⟨o, List.mem_singleton.mp z ▸ y, fun _ q => by rw [d] at q; exact nomatch q⟩
  item := fun X hP hw hK hc i pins s σ H E I hf a hg => by
    subst hP; subst hw; subst hK
    have apart := fun {b : Addr} (hb : b ∈ [e, it]) => a.lt hb
    obtain ⟨⟨_, x⟩, y, ne⟩ := a
    obtain ⟨l, v, hq, hv⟩ := hg
    obtain ⟨us, rs, tp, _⟩ := I.tuple hq
    obtain ⟨u, hu, ru⟩ := rs.get hv
    have tp2 : s.heap.IsTuple t us.toArray := tp
    have hu2 : us.toArray[i]? = some u := by rw [List.getElem?_toArray]; exact hu
    refine wpAny_pyNext_enum_itemD (Draws.tuple (A := X.A.in1) (I.ok.hd hc) it t (iter_ne y tp2) us.toArray) x ⟨y, tp2⟩ (Array.getElem?_eq_some_iff.mp hu2).1 ne (fun z => ?_) fun r h1 tk hr out st hT _ hk => ?_
    · rcases List.mem_cons.mp z with z | z
      · exact ne z
      · exact enum_ne x tp2 (List.mem_singleton.mp z)
    obtain rfl : r = u := Option.some.inj (hr.symm.trans hu2)
    refine ⟨_, rfl, wpAny_letOwnedTupleGo_enum (s := { s with heap := h1, toks := tk + 1 }) out fun h2 x2 sb => ?_⟩
    have old : ∀ b o, b ∉ [e, it] → s.heap.get? b = some o → h2.get? b = some o := fun b o nb q =>
      (sb.2 b fun z => nb (z ▸ List.mem_cons_self)).trans (hk b o (fun z => nb (z ▸ List.mem_cons_self)) (fun z => nb (z ▸ List.mem_cons_of_mem _ List.mem_cons_self)) q)
    have hT2 := (sb.2 _ (Nat.ne_of_gt (apart List.mem_cons_self))).trans hT
    have I2 := I.turnedNew (t' := tk + 1) (ob := .tup [.int (i : Nat), v]) old hf (Nat.le_refl _) ⟨(by decide : 2 ≤ sizeLine), [.int i tk, r], .cons ⟨_, rfl⟩ (.cons ru .nil), ⟨_, hT2, rfl, _, rfl⟩⟩
    refine ⟨.ref s.heap.objs.size, _, I2, rfl, ⟨_, v, rfl, I.hok.fresh (Nat.le_refl _), rfl, fun m hm => (I.tuple_inj hm hq) ▸ hv⟩, ⟨⟨r, Int.natCast_succ i ▸ x2⟩, st.1.at fun o q => (sb.2 it ne.symm).trans q, ne⟩, fun b hb => ?_⟩
    exact (upd_ne (Nat.ne_of_lt (apart hb))).trans (hf b hb).1
  done := fun X hP hw hK hc i pins s σ H E I hf a hg => by
    subst hP; subst hw; subst hK
    obtain ⟨⟨_, x⟩, y, _⟩ := a
    obtain ⟨l, hq, hv⟩ := hg
    obtain ⟨us, rs, tp, _⟩ := I.tuple hq
    have tp2 : s.heap.IsTuple t us.toArray := tp
    have f := hf it (List.mem_cons_of_mem _ List.mem_cons_self)
    have ty : s.TypeIs (.ref e) "enumerate" := ⟨_, x, rfl⟩
    have sz : us.toArray[i]? = none := by rw [List.getElem?_toArray, List.getElem?_eq_none_iff, ← rs.length]; exact hv
    unfold pyNext
    refine wpAny_bind (wpAny_attempt (wpAny_callSpecial?_slot (name := Str.ofString "__next__") ty F.slot_enumerate_next (wpAny_call_entry F.slot_enumerate_next ty F.entry_enumerate_next
      (show wpAny _ _ (field (.ref e) 2 >>= _) _ _ _ from wpAny_bind (wpAny_field x rfl (x := .ref it) rfl (wpAny_bind (wpAny_nextOf_tuple_end (I.ok.hd hc) y tp2 sz fun h1 r k1 hr => ?_)))) (F.args_enumerate_next_1 _))))
    obtain ⟨o, ho, oc⟩ := hr
    exact wpAny_bind (wpAny_isInstance (T := "StopIteration") (b := true) ⟨o, ho, oc⟩ isSubtype_stop (wpAny_pure ⟨rfl, I.turned (t' := s.toks) (fun b o2 hb q => k1 b o2 hb q) f.1 f.2.1 f.2.2.2.1 f.2.2.2.2.1 f.2.2.2.2.2⟩))
set_option maxHeartbeats 1000000 in
/-- enumerate(v): two new records -/
theorem enum_new {v : Value} {o : Obj} {G : Heap → Prop} (B : Begins v o G) : Meets (Builtin.«enumerate.__new__» ⟨[.type "enumerate", v], []⟩) (fun _ R s => G s.heap ∧
    R (.ok (.ret (.ref (s.heap.push o).objs.size))) { s with heap := (s.heap.push o).push { cls := .type "enumerate", data := .fields #[.none, .bool false, .ref s.heap.objs.size, rawInt 0, .none, .none] } }) := by
  refine .of_wp fun prog w A R s h => ?_
  obtain ⟨hp, g, d, tk, os⟩ := s
  obtain ⟨hG, hR⟩ := h
  have isE := sub_enumerate
  have it : ∀ {A' : Around} {E : Value → Shared → Prop} {Q : Value → Shared → Prop}, Q (.ref hp.objs.size) ⟨hp.push o, g, d, tk, os⟩ → wpAny (model prog w) A' (pyIter v) Q E ⟨hp, g, d, tk, os⟩ := fun q => B.iter prog w _ _ _ _ hG q
  wp_walk using it
  refine wpAny_stack_any fun st => wpAny_pure ?_
  split
  · rename_i c _ _ _ _ _
    cases (c == Value.type "enumerate") <;> (wp_walk using it; exact ⟨_, rfl, hR⟩)
  · wp_walk using it
    exact ⟨_, rfl, hR⟩
def iEnumT (K : PySem.W.Frag) (ta : TA) : TI := fun σ H R => ta σ H fun vs H1 => ∃ t l, vs = [.ref t] ∧ SqT K H1 t l ∧ R (IteT K t) H1
theorem pi_enumT {X : Cx} {e : Expr} {ta : TA} {p pos tpos : Pos} {elts : List Expr} {kk : Nat} (hg : Gl X "enumerate") (hm : X.mg "enumerate" = none) (ha : PA X [e] ta) (hs : starEach [e] X.env = [(false, eval e X.env)] := by rfl) :
    PI X (.Tuple elts kk tpos) (.Call (.Name "enumerate" p) [e] [] pos) (iEnumT X.K ta) := by
  refine ⟨fun pins s σ H R I h => Call_ (ld_blt I hg hm boot_enumerate (PyProof.Rows.callWith_type1 (thn (ha.run pos pins s σ H _ I h) fun us s1 q1 => ?_) hs rfl))⟩
  obtain ⟨vs, H1, I1, r1, t, l, ex, hq, q⟩ := q1
  subst ex
  obtain rfl := Vals.ref1 r1
  obtain ⟨us, rs, tp, _⟩ := I1.tuple hq
  refine callType_new F.called_enumerate (by decide) (F.typeCall_enumerate_1 _) (F.newCall_enumerate_1 _) (fun obj => F.args_object_init_2 obj _) F.entry_enumerate_new (enum_new (begins_tuple t us.toArray)) ⟨tp, ?_⟩
  have z1 : (s1.heap.push { cls := .type "tuple_iterator", data := .fields #[.ref t, .int 0 0] }).objs.size = s1.heap.objs.size + 1 := Heap.size_push ..
  have en : IsEnum ((s1.heap.push { cls := .type "tuple_iterator", data := .fields #[.ref t, .int 0 0] }).push { cls := .type "enumerate", data := .fields #[.none, .bool false, .ref s1.heap.objs.size, rawInt 0, .none, .none] }) (s1.heap.objs.size + 1) s1.heap.objs.size 0 .none := by
    rw [← z1]
    exact Heap.get?_push_size _ rfl
  have ti : ((s1.heap.push { cls := .type "tuple_iterator", data := .fields #[.ref t, .int 0 0] }).push { cls := .type "enumerate", data := .fields #[.none, .bool false, .ref s1.heap.objs.size, rawInt 0, .none, .none] }).IsTupleIter s1.heap.objs.size t 0 := ⟨_, Heap.get?_push_of_some _ (Heap.get?_push_size _ rfl), rfl, rfl⟩
  rw [z1]
  refine ⟨⟨_, en, rfl⟩, wpAny_pyIter_enum en ⟨s1.heap.objs.size + 1, [s1.heap.objs.size + 1, s1.heap.objs.size], _, _, H1, rfl, I1.kept (t' := s1.toks) fun b o x => Heap.get?_push_of_some _ (Heap.get?_push_of_some _ x), turn_enumT t (s1.heap.objs.size + 1) s1.heap.objs.size, ⟨⟨.none, en⟩, ti, Nat.succ_ne_self _⟩, fun b hb => ?_, q⟩⟩
  have up : s1.heap.objs.size ≤ b := by
    rcases List.mem_cons.mp hb with z | z
    · exact z ▸ Nat.le_succ _
    · exact List.mem_singleton.mp z ▸ Nat.le_refl _
  exact I1.fpOk up (I1.hok.fresh up)
theorem walk_enumT {K : PySem.W.Frag} {t : Addr} {l : List V} : Walk (IteT K t) l.length (fun H => SqT K H t l) (YPair (fun i => some (.int (i : Nat))) (fun i => l[i]?)) where
  goes := fun i _ hi q => ⟨l, l[i], q, List.getElem?_eq_getElem hi⟩
  stops := fun _ q => ⟨l, q, Nat.le_refl _⟩
  yields := fun i H r H2 _ q ⟨T, v, a, b, c, d⟩ => ⟨T, .int (i : Nat), v, a, b, c, rfl, d l q⟩
end K68
set_option maxRecDepth 100000
set_option maxHeartbeats 4000000
namespace K68
open PySem PySem.Spec PyProof.Rows L2
/-! ### zip of a list and a tuple -/
def ItzLT (K : PySem.W.Frag) (a b : Addr) : It where
  go i H := ∃ (l m : List V) (v w : V), SqL K H a l ∧ SqT K H b m ∧ l[i]? = some v ∧ m[i]? = some w
  yld i H r H2 := ∃ T v w, r = .ref T ∧ H T = none ∧ H2 = upd H T (.tup [v, w]) ∧ (∀ l, SqL K H a l → l[i]? = some v) ∧ ∀ m, SqT K H b m → m[i]? = some w
  stop i H := ∃ l m : List V, SqL K H a l ∧ SqT K H b m ∧ i ≤ l.length ∧ i ≤ m.length ∧ (i = l.length ∨ i = m.length)
def ZiT (a b z TI TO i1 i2 : Addr) (i : Nat) (h : Heap) : Prop :=
  IsZip h z TI TO .none ∧ IsTupOf2 h TI (.ref i1) (.ref i2) ∧ (∃ x y, IsTupOf2 h TO x y) ∧ h.IsListIter i1 a i ∧ h.IsTupleIter i2 b i
theorem ZiT.at_ {a b z TI TO i1 i2 : Addr} {i : Nat} {h : Heap} (st : ZiT a b z TI TO i1 i2 i h) {c : Addr} (hc : c ∈ [z, TI, TO, i1, i2]) : ∃ o, h.get? c = some o ∧ ∀ v, o.data ≠ .cell v := by
  obtain ⟨y0, y1, ⟨_, _, y2⟩, ⟨o1, y3, _, d1⟩, ⟨o2, y4, _, d2⟩⟩ := st
  simp only [List.mem_cons, List.not_mem_nil, or_false] at hc
  rcases hc with rfl | rfl | rfl | rfl | rfl
  · exact ⟨_, y0, fun _ q => nomatch q⟩
  · exact ⟨_, y1, fun _ q => nomatch q⟩
  · exact ⟨_, y2, fun _ q => nomatch q⟩
  · exact ⟨o1, y3, fun _ q => by rw [d1] at q; cases q⟩
  · exact ⟨o2, y4, fun _ q => by rw [d2] at q; cases q⟩
theorem turn_zipLT {P : Program} {w : World} {K : PySem.W.Frag} {elts : List Expr} {kk : Nat} {tpos : Pos} {a b z TI TO i1 i2 : Addr} (S : ZipSep2 z TI TO i1 i2 [i1, a] [i2, b]) (na : a ≠ i1) (nb : b ≠ i2) :
    Turn P w K (.Tuple elts kk tpos) (ItzLT K a b) [z, TI, TO, i1, i2] z (ZiT a b z TI TO i1 i2) where
  mem := List.mem_cons_self
  self := fun A i s Q E a h => wpAny_pyIter_zip a.1 h
  obj := fun i h st c hc => st.at_ hc
  keep := fun i h h2 st k => by
    obtain ⟨y0, y1, ⟨u, v, y2⟩, y3, y4⟩ := st
    have k2 : ∀ c ∈ [z, TI, TO, i1, i2], ∀ o, h.get? c = some o → h2.get? c = some o := k
    exact ⟨k2 z (by simp) _ y0, k2 TI (by simp) _ y1, ⟨u, v, k2 TO (by simp) _ y2⟩, y3.at (k2 i1 (by simp)), y4.at (k2 i2 (by simp))⟩
  item := fun X hP hw hK hc i pins s σ H E I hf st hg => by
    subst hP; subst hw; subst hK
    have lt := fun {c : Addr} (hc : c ∈ [z, TI, TO, i1, i2]) => let ⟨_, q, _⟩ := st.at_ hc; Heap.lt_size q
    obtain ⟨y0, y1, ⟨_, _, y2⟩, y3, y4⟩ := st
    obtain ⟨l, m, v, u, hl, hm, hv, hu⟩ := hg
    obtain ⟨ls, r1, p1, _⟩ := I.list hl
    obtain ⟨ms, r2, p2, _⟩ := I.tuple hm
    obtain ⟨v', hv', rv⟩ := r1.get hv
    obtain ⟨u', hu', ru⟩ := r2.get hu
    have p2' : s.heap.IsTuple b ms.toArray := p2
    have gv : ls.toArray[i]? = some v' := by rw [List.getElem?_toArray]; exact hv'
    have gu : ms.toArray[i]? = some u' := by rw [List.getElem?_toArray]; exact hu'
    refine wpAny_pyNext_zipD2_item S (Draws.list (A := X.A.in1) (I.ok.hd hc) i1 a na ls.toArray) (Draws.tuple (A := X.A.in1) (I.ok.hd hc) i2 b nb ms.toArray) y0 y1 y2 ⟨y3, p1.isList⟩ ⟨y4, p2'⟩
      (Array.getElem?_eq_some_iff.mp gv).1 (Array.getElem?_eq_some_iff.mp gu).1 fun x1 x2 h1 tk e1 e2 z1 t1 s1 s2 hT _ hk => ?_
    obtain rfl : x1 = v' := Option.some.inj (e1.symm.trans gv)
    obtain rfl : x2 = u' := Option.some.inj (e2.symm.trans gu)
    refine ⟨_, rfl, wpAny_letOwnedTupleGo_zip (s := { s with heap := h1, toks := tk }) z1 fun h2 z2 sb => ?_⟩
    have old : ∀ c o, c ∉ [z, TI, TO, i1, i2] → s.heap.get? c = some o → h2.get? c = some o := fun c o nc q => by
      simp only [List.mem_cons, List.not_mem_nil, or_false, not_or] at nc
      exact (sb.2 c nc.1).trans (hk c o nc.1 nc.2.2.1 nc.2.2.2.1 nc.2.2.2.2 q)
    have hT2 := (sb.2 _ (Nat.ne_of_gt (lt (List.mem_cons_self)))).trans hT
    have I2 := I.turnedNew (t' := tk) (ob := .tup [v, u]) old hf (Nat.le_refl _) ⟨(by decide : 2 ≤ sizeLine), [x1, x2], .cons rv (.cons ru .nil), ⟨_, hT2, rfl, _, rfl⟩⟩
    refine ⟨.ref s.heap.objs.size, _, I2, rfl, ⟨_, v, u, rfl, I.hok.fresh (Nat.le_refl _), rfl, fun l2 h => (I.list_inj h hl) ▸ hv, fun m2 h => (I.tuple_inj h hm) ▸ hu⟩, ⟨z2, ?_, ⟨x1, x2, (sb.2 _ S.TOz).trans t1⟩, ?_, ?_⟩, fun c hc => ?_⟩
    · refine (sb.2 _ S.TIz).trans (hk TI _ S.TIz S.TITO S.TIi1 S.TIi2 y1)
    · exact s1.1.at fun o q => (sb.2 i1 S.zi1.symm).trans q
    · exact s2.1.at fun o q => (sb.2 i2 S.zi2.symm).trans q
    · exact (upd_ne (Nat.ne_of_lt (lt hc))).trans (hf c hc).1
  done := fun X hP hw hK hc i pins s σ H E I hf st hg => by
    subst hP; subst hw; subst hK
    obtain ⟨y0, y1, ⟨_, _, y2⟩, y3, y4⟩ := st
    obtain ⟨l, m, hl, hm, le1, le2, en⟩ := hg
    obtain ⟨ls, r1, p1, _⟩ := I.list hl
    obtain ⟨ms, r2, p2, _⟩ := I.tuple hm
    have p2' : s.heap.IsTuple b ms.toArray := p2
    have n1 : ls.toArray.size = l.length := by rw [r1.length]; simp
    have n2 : ms.toArray.size = m.length := by rw [r2.length]; simp
    refine wpAny_pyNext_zipD2_end S (Draws.list (A := X.A.in1) (I.ok.hd hc) i1 a na ls.toArray) (Draws.tuple (A := X.A.in1) (I.ok.hd hc) i2 b nb ms.toArray) y0 y1 y2 ⟨y3, p1.isList⟩ ⟨y4, p2'⟩
      (by rw [n1]; exact le1) (by rw [n2]; exact le2) (by rw [n1, n2]; exact en) fun h1 tk hk => ⟨rfl, I.turnedL (t' := tk) (ch := [z, TI, TO, i1, i2]) (fun c o nc q => ?_) hf⟩
    simp only [List.mem_cons, List.not_mem_nil, or_false, not_or] at nc
    exact hk c o nc.1 nc.2.2.1 nc.2.2.2.1 nc.2.2.2.2 q
def iZipLT (K : PySem.W.Frag) (ta : TA) : TI := fun σ H R => ta σ H fun vs H1 => ∃ a b l m, vs = [.ref a, .ref b] ∧ SqL K H1 a l ∧ SqT K H1 b m ∧ R (ItzLT K a b) H1
theorem pi_zipLT {X : Cx} {e e2 : Expr} {ta : TA} {p pos tpos : Pos} {elts : List Expr} {kk : Nat} (hg : Gl X "zip") (hm : X.mg "zip" = none) (ha : PA X [e, e2] ta)
    (hs : starEach [e, e2] X.env = (false, eval e X.env) :: starEach [e2] X.env := by rfl) (hpl : (backTo pos (starEach [e2] X.env)).any (·.1) = false := by rfl) : PI X (.Tuple elts kk tpos) (.Call (.Name "zip" p) [e, e2] [] pos) (iZipLT X.K ta) := by
  refine ⟨fun pins s σ H R I h => Call_ (ld_blt I hg hm PyProof.Rows.boot_zip (PyProof.Rows.callWith_type1 (thn (ha.run pos pins s σ H _ I h) fun us s1 q1 => ?_) hs hpl))⟩
  obtain ⟨vs, H1, I1, r1, a, b, l, m, ex, hl, hm2, q⟩ := q1
  subst ex
  obtain ⟨u1, u2, rfl, ru, ru2⟩ := vals2 r1
  cases ru
  cases ru2
  obtain ⟨ls, _, p1, _⟩ := I1.list hl
  obtain ⟨ms, _, p2, _⟩ := I1.tuple hm2
  have p2' : s1.heap.IsTuple b ms.toArray := p2
  have la : a < s1.heap.objs.size := p1.lt
  have lb : b < s1.heap.objs.size := let ⟨_, q, _⟩ := p2; Heap.lt_size q
  refine zip_begins2 (begins_list a ls.toArray) (begins_tuple b ms.toArray) p1.isList p2' fun h1 hz hTI hTO h3 h4 _ hk => wpAny_pyIter_zip hz ?_
  have S := zip_sep2 (N := s1.heap.objs.size) (fp1 := [a]) (fp2 := [b]) (fun c hc => List.mem_singleton.mp hc ▸ la) (fun c hc => List.mem_singleton.mp hc ▸ lb)
  have nb1 : b ≠ s1.heap.objs.size + 1 := fun z => by rw [z] at lb; exact absurd lb (Nat.not_lt.mpr (Nat.le_succ _))
  refine ⟨s1.heap.objs.size + 4, [s1.heap.objs.size + 4, s1.heap.objs.size + 2, s1.heap.objs.size + 3, s1.heap.objs.size, s1.heap.objs.size + 1], _, _, H1, rfl, I1.kept (t' := s1.toks) hk, turn_zipLT S (Nat.ne_of_lt la) nb1, ⟨hz, hTI, ⟨_, _, hTO⟩, ⟨_, h3, rfl, rfl⟩, ⟨_, h4, rfl, rfl⟩⟩, fun c hc => ?_, q⟩
  have up : s1.heap.objs.size ≤ c := by
    simp only [List.mem_cons, List.not_mem_nil, or_false] at hc
    rcases hc with rfl | rfl | rfl | rfl | rfl <;> first | exact Nat.le_refl _ | exact Nat.le_add_right _ _
  exact I1.fpOk up (I1.hok.fresh up)
theorem walk_zipLT {K : PySem.W.Frag} {a b : Addr} {l m : List V} (hl : l.length = m.length) : Walk (ItzLT K a b) l.length (fun H => SqL K H a l ∧ SqT K H b m) (YPair (fun i => l[i]?) (fun i => m[i]?)) where
  goes := fun i _ hi q => ⟨l, m, l[i], m[i]'(hl ▸ hi), q.1, q.2, List.getElem?_eq_getElem hi, List.getElem?_eq_getElem _⟩
  stops := fun _ q => ⟨l, m, q.1, q.2, Nat.le_refl _, Nat.le_of_eq hl, .inl rfl⟩
  yields := fun i H r H2 _ q ⟨T, v, u, a1, b1, c1, d1, e1⟩ => ⟨T, v, u, a1, b1, c1, d1 l q.1, e1 m q.2⟩
end K68
set_option maxRecDepth 100000
set_option maxHeartbeats 4000000
namespace K68
open PySem PySem.Spec PyProof.Rows L2
/-! ### a store into a dict by a comprehension, whatever its keys are -/
/-- what is asked where y: z is laid into the dict at D -/
abbrev TPut := Addr → V → V → Hp → (Hp → Prop) → Prop
def PutR (P : Program) (w : World) (A : Around) (r : TPut) : Prop :=
  ∀ (X : Cx), X.prog = P → X.w = w → X.A = A → ∀ (pins : List (Addr × Obj)) (s : Shared) (σ : L2.St) (H : Hp) (E : Value → Shared → Prop) (D : Addr) (y z : V) (u v : Value) (N : Hp → Prop), Inv X pins σ H s → RelV y u → RelV z v → r D y z H N →
    wpAny (model P w) A (dictSet D u v) (fun _ s2 => ∃ H2, Inv X pins σ H2 s2 ∧ N H2) E s
def rPutT : TPut := fun D y z H N => ∃ kvs k b, y = .ref b ∧ H b = some (.tup (k.map kV)) ∧ H D = some (.dT kvs) ∧ kvs.length < sizeLine ∧ N (upd H D (.dT (putK kvs k z)))
def rPutK : TPut := fun D y z H N => ∃ kvs k, y = kV k ∧ H D = some (.dK kvs) ∧ kvs.length < sizeLine ∧ N (upd H D (.dK (putK kvs k z)))
theorem putR_K {P : Program} {w : World} {A : Around} : PutR P w A rPutK := fun X hP hw hA pins s σ H E D y z u v N I ry rz h => by
  subst hP; subst hw; subst hA
  obtain ⟨kvs, k, ey, hD, hz, n⟩ := h
  subst ey
  exact d_dictSet I hD hz ry rz fun s2 I2 => ⟨_, I2, n⟩
theorem putR_T {P : Program} {w : World} {A : Around} (hu : A.units + 1 < cLine) : PutR P w A rPutT := fun X hP hw hA pins s σ H E D y z u v N I ry rz h => by
  subst hP; subst hw; subst hA
  obtain ⟨kvs, k, b, ey, hb, hD, hz, n⟩ := h
  subst ey
  obtain rfl : u = Value.ref b := ry
  obtain ⟨_, nm, xs, rel, held⟩ := dt_of I.hok hD
  have few : xs.length ≤ sizeLine := (Paired.length rel) ▸ Nat.le_of_lt hz
  refine wpAny_dictSet_heap (hsz := few) (show X.A.units < cLine from Nat.lt_of_succ_lt hu) (key_of I.hok hb) held fun h2 held2 same => ⟨_, ?_, n⟩
  obtain ⟨q, es, ep, hq, c1, c2, c3, _, c4⟩ := held2
  have le := length_putK kvs k z
  refine d_write I (hD ▸ True.intro) same ⟨q, hq⟩ ⟨Nat.le_trans le hz, nm, _, KT.keeps (rel.put k hb rz) fun c ys ec => ?_, q, es, ep, hq, c1, c2, c3, c4⟩
  exact (upd_ne (ne_of ec hD fun e => nomatch e)).trans ec
/-- {y: z for target in iter if ..}: D the new dict, o what it is while it is empty -/
def tDg (o : HO) (r : TPut) (wi : TI) (g : TG) (tt : TT) (tk tv : TE) (vs : List Nat) : TE := fun σ H Q => wi σ H fun J H1 => ∀ D, H1 D = none → ∃ W : Nat → Nat → Hp → Prop, (∃ m, W 0 m (upd H1 D o)) ∧ ∀ i m H, W i m H →
  (J.stop i H ∧ Q (.ref D) H) ∨ (J.go i H ∧ ∃ Nx : Hp → Prop, (∀ H', Nx H' → ∃ m', m' < m ∧ W (i + 1) m' H') ∧ ∀ x H', J.yld i H x H' → g x (wipe σ vs) H' fun σ2 H2 => wipe σ2 vs = wipe σ vs ∧ tt σ2 H2 fun b H3 =>
    if b = true then tk σ2 H3 fun y H4 => tv σ2 H4 fun z H5 => r D y z H5 Nx else Nx H3)
section
variable {X : Cx}
/-- the block's frame: what holds between two turns -/
def Mid (X : Cx) (B : Cx) (fp : List Addr) (tn : Nat → Heap → Prop) (σ : L2.St) (W : Nat → Nat → Hp → Prop) (n : Nat) (s : Shared) : Prop := ∃ i H, Inv B [] σ H s ∧ tn i s.heap ∧ (∀ b ∈ fp, H b = none) ∧ W i n H
theorem wipe_weak {σ σ2 : L2.St} {vs : List Nat} (e : wipe σ2 vs = wipe σ vs) : (wipe σ vs).length = σ2.length ∧ ∀ (j : Nat) v, (wipe σ vs)[j]? = some (some v) → σ2[j]? = some (some v) :=
  ⟨by rw [← e, wipe_length], fun j v h => (wipe_some (e ▸ h)).1⟩
theorem dg_core {pins : List (Addr × Obj)} {s : Shared} {σ : L2.St} {H : Hp} {Q : VK} {kx vx tg iter : Expr} {ifs : List Expr} {scope : Scope} {own : List (Str × Nat)} {pos pos' : Pos} {wi : TI} {g : TG} {tt : TT} {tk tv : TE} {use : Option (Value → Sem Unit)} {Qf : Value → Shared → Prop} {o : HO} {r : TPut}
    (ho : ∀ (H : Hp) (h : Heap), sysModules < h.objs.size → ObjOk X.prog X.w H (h.push { cls := .type "dict", data := .dict #[] }) h.objs.size o) (hr : PutR X.prog X.w X.A r)
    (hc : X.calm = true) (hN : X.N.Nodup) (I : Inv X pins σ H s) (hi : PI X tg iter wi) (ok : BlkOk X.N X.env.scope scope own)
    (hg : ∀ (s : Shared) (H : Hp) (C : Addr) (cl : List (Str × Addr)) (fp : List Addr), PG (X.blk s H scope (compEnvC scope cl C X.env) fp) tg g) (ht : ∀ (s : Shared) (H : Hp) (C : Addr) (cl : List (Str × Addr)) (fp : List Addr), PTs (X.blk s H scope (compEnvC scope cl C X.env) fp) ifs tt)
    (hk : ∀ (s : Shared) (H : Hp) (C : Addr) (cl : List (Str × Addr)) (fp : List Addr), PE (X.blk s H scope (compEnvC scope cl C X.env) fp) kx tk) (hv : ∀ (s : Shared) (H : Hp) (C : Addr) (cl : List (Str × Addr)) (fp : List Addr), PE (X.blk s H scope (compEnvC scope cl C X.env) fp) vx tv)
    (hs : ∀ x, foldedSetIterable iter X.env x = pure x) (h : tDg o r wi g tt tk tv (own.map (·.2)) σ H Q)
    (fin : ∀ D C s' m H', Inv X pins σ H' s' → Q (.ref D) H' → s'.heap.Ns C m → FpOk X pins H' C → compPost (model X.prog X.w) X.A X.xe use Qf (.ref D) C (.ok .next) s') :
    wpAny (model X.prog X.w) X.A (comprehension (.DictComp kx vx [⟨tg, iter, ifs, 0⟩] scope pos) scope X.env pos' newDict false (eval iter X.env) use) Qf X.xe s := by
  have capt : ∀ y ∈ scope.names, y.2 = .free → ∃ c, X.env.cells.lookup y.1 = some c := fun y hy e => I.ok.has _ ((ok.free y hy e).imp id id)
  refine wpAny_comprehension_free (use := use) rfl hs (closure_ok capt) ok.kind (fun y hy e => (ok.uniq y hy).trans (e ▸ rfl)) (thn (hi.run pins s σ H _ I h) fun xv s1 hx => thn hx fun itv s2 h2 => ?_)
  obtain ⟨it, fp, tn, J, H2, e, I2, T, st2, f2, q⟩ := h2
  subst e
  refine wpAny_newObj_type (newEnv_comp ?_)
  obtain ⟨D, hD⟩ : ∃ D, s2.heap.objs.size = D := ⟨_, rfl⟩
  rw [hD]
  have freeD : H2 D = none := I2.hok.fresh (Nat.le_of_eq hD)
  obtain ⟨W, ⟨m0, w0⟩, turn⟩ := q D freeD
  obtain ⟨s3, hs3⟩ : ∃ s3 : Shared, s3 = { s2 with heap := s2.heap.push { cls := .type "dict", data := .dict #[] } } := ⟨_, rfl⟩
  rw [← hs3]
  have h3 : s3.heap = s2.heap.push { cls := .type "dict", data := .dict #[] } := congrArg Shared.heap hs3
  have I3 : Inv X pins σ (upd H2 D o) s3 := hs3 ▸ I2.laid (t' := s2.toks) (fun b ob e => Heap.get?_push_of_some _ e) (Nat.le_of_eq hD) (hD ▸ ho _ s2.heap I2.big)
  have small : ∀ b ∈ fp, b < s2.heap.objs.size := fun b hb => let ⟨_, e, _⟩ := T.obj _ _ st2 b hb; Heap.lt_size e
  have f3 : ∀ b ∈ fp, FpOk X pins (upd H2 D o) b ∧ b < s3.heap.objs.size := fun b hb =>
    ⟨⟨(upd_ne (Nat.ne_of_lt (hD ▸ small b hb))).trans (f2 b hb).1, (f2 b hb).2⟩, h3 ▸ (Heap.size_push ..).symm ▸ Nat.lt_succ_of_lt (small b hb)⟩
  have st3 : tn 0 s3.heap := T.keep _ _ _ st2 fun b _ ob e => h3 ▸ Heap.get?_push_of_some _ e
  have I4 := block_start I3 ok hN f3
  have pg := hg s3 (upd H2 D o) s3.heap.objs.size (cellsFrom (s3.heap.objs.size + 1) scope.names (cloFrom X.env.cells scope.names [])) fp
  have pt := ht s3 (upd H2 D o) s3.heap.objs.size (cellsFrom (s3.heap.objs.size + 1) scope.names (cloFrom X.env.cells scope.names [])) fp
  have pk := hk s3 (upd H2 D o) s3.heap.objs.size (cellsFrom (s3.heap.objs.size + 1) scope.names (cloFrom X.env.cells scope.names [])) fp
  have pv' := hv s3 (upd H2 D o) s3.heap.objs.size (cellsFrom (s3.heap.objs.size + 1) scope.names (cloFrom X.env.cells scope.names [])) fp
  show codeAny _ _ (.compStart (.DictComp kx vx [⟨tg, iter, ifs, 0⟩] scope pos) 0 (.ref it) (.ref D) (compEnvC scope (cellsFrom (s3.heap.objs.size + 1) scope.names (cloFrom X.env.cells scope.names [])) s3.heap.objs.size X.env)) (compPost (model X.prog X.w) X.A X.xe use Qf (.ref D) s3.heap.objs.size) _
  generalize hce : compEnvC scope (cellsFrom (s3.heap.objs.size + 1) scope.names (cloFrom X.env.cells scope.names [])) s3.heap.objs.size X.env = ce at I4 pg pt pk pv' ⊢
  have cL : ce.locals = s3.heap.objs.size := hce ▸ rfl
  have nf := fun b hb => (f3 b hb).1.1
  generalize hH3 : upd H2 D o = H3 at I3 I4 pg pt pk pv' w0 f3 nf
  generalize hs4 : ({ s3 with heap := pushCells (s3.heap.push { cls := .type "dict", data := .dict #[] }) scope.names } : Shared) = s4 at I4 ⊢
  have st4 : tn 0 s4.heap := T.keep _ _ _ st3 fun b _ ob e => hs4 ▸ pushCells_keeps _ _ _ _ (Heap.get?_push_of_some _ e)
  have own' : ∀ {σ' : L2.St} {H' : Hp} {s' : Shared}, Inv (X.blk s3 H3 scope ce fp) [] σ' H' s' → (∀ b ∈ fp, H' b = none) → ∀ b ∈ fp, FpOk (X.blk s3 H3 scope ce fp) [] H' b := fun I' hn b hb =>
    ⟨hn b hb, (I'.ok.exf b hb).1, I'.ok.exfs b hb, .inl hb, (I'.ok.exf b hb).2, fun p hp => nomatch (show p ∈ ([] : List (Addr × Obj)) from hp)⟩
  refine (fun (loop : codeAny (model X.prog X.w) X.A (.compLoop (.DictComp kx vx [⟨tg, iter, ifs, 0⟩] scope pos) 0 (.ref it) (.ref D) ce) (compPost (model X.prog X.w) X.A X.xe use Qf (.ref D) s3.heap.objs.size) s4) => codeAny_compStart_dict loop (T.self X.A 0 _ _ _ st4 loop)) ?_
  refine compLoop_anyD (Mid X (X.blk s3 H3 scope ce fp) fp tn (wipe σ (own.map (·.2))) W) ?_ m0 ⟨0, H3, I4, st4, nf, w0⟩
  rintro n s5 ⟨i, H5, I5, st5, n5, w5⟩
  rcases turn i n H5 w5 with ⟨stop, qq⟩ | ⟨go, Nx, hNx, step⟩
  · refine thnF (T.done (X.blk s3 H3 scope ce fp) rfl rfl rfl hc i [] s5 _ H5 (fun _ _ => False) I5 (own' I5 n5) st5 stop) fun rr s6 ⟨er, I6⟩ => ?_
    subst er
    have I7 : Inv X pins σ H5 s6 := I3.call' (ch := fp) I6.os I6.base I6.hok I6.bare fun b hb => let f := (f3 b hb).1; ⟨f.2.2.2.1, f.2.1, f.2.2.2.2.1, f.2.2.2.2.2⟩
    have nC : H5 s3.heap.objs.size = none := cL ▸ I6.free
    obtain ⟨m, hn, _⟩ := I6.loc
    exact fin D s3.heap.objs.size s6 m H5 I7 qq (cL ▸ hn) (I3.fpOk (Nat.le_refl _) nC)
  · refine thnF (T.item (X.blk s3 H3 scope ce fp) rfl rfl rfl hc i [] s5 _ H5 (fun _ _ => False) I5 (own' I5 n5) st5 go) fun rr s6 ⟨u, er, h6⟩ => ?_
    subst er
    refine thnF h6 fun _ s7 ⟨x, H7, I7, r7, y7, st7, n7⟩ => ?_
    refine thnF (pg.run _ s7 _ H7 x u _ (I7.pinned (own' I7 n7) (T.obj _ _ st7)) r7 (step x H7 y7)) fun _ s8 ⟨σ8, H8, I8, hw8, q8⟩ => ?_
    refine thnF (pt.run _ s8 σ8 H8 _ I8 q8) fun b s9 ⟨H9, I9, q9⟩ => ?_
    have next : ∀ {s' : Shared} {H' : Hp}, Inv (X.blk s3 H3 scope ce fp) ([] ++ pinsAt fp s7.heap) σ8 H' s' → Nx H' → ∃ m, m < n ∧ Mid X (X.blk s3 H3 scope ce fp) fp tn (wipe σ (own.map (·.2))) W m s' := fun {s' H'} I' nx => by
      obtain ⟨m', lt, w'⟩ := hNx H' nx
      have held : ∀ b ∈ fp, ∀ ob, s7.heap.get? b = some ob → s'.heap.get? b = some ob ∧ H' b = none := fun b hb ob e => let z := I'.pin (b, ob) (List.mem_append_right _ (List.mem_append_right _ (mem_pinsAt hb e))); ⟨z.1, z.2.1⟩
      exact ⟨m', lt, i + 1, H', (I'.unpinned (pins := [])).weak (wipe_weak hw8).1 (wipe_weak hw8).2, T.keep _ _ _ st7 fun b hb ob e => (held b hb ob e).1, fun b hb => let ⟨ob, e, _⟩ := T.obj _ _ st7 b hb; (held b hb ob e).2, w'⟩
    cases b with
    | false =>
      simp only [Bool.false_eq_true, if_false] at q9 ⊢
      exact next I9 q9
    | true =>
      simp only [if_true] at q9 ⊢
      refine thnF (pk.run _ s9 σ8 H9 _ I9 q9) fun z1 s10 ⟨y, H10, I10, r10, q10⟩ => ?_
      refine thnF (pv'.run _ s10 σ8 H10 _ I10 q10) fun z2 s11 ⟨z, H11, I11, r11, q11⟩ => ?_
      exact thn (hr (X.blk s3 H3 scope ce fp) rfl rfl rfl _ _ _ _ _ D y z z1 z2 Nx I11 r10 r11 q11) fun _ s12 ⟨H12, I12, nx⟩ => next I12 nx
theorem pe_dg {kx vx tg iter : Expr} {ifs : List Expr} {scope : Scope} {own : List (Str × Nat)} {pos : Pos} {wi : TI} {g : TG} {tt : TT} {tk tv : TE} {o : HO} {r : TPut} (ho : ∀ (H : Hp) (h : Heap), sysModules < h.objs.size → ObjOk X.prog X.w H (h.push { cls := .type "dict", data := .dict #[] }) h.objs.size o) (hr : PutR X.prog X.w X.A r)
    (hc : X.calm = true) (hN : X.N.Nodup) (hi : PI X tg iter wi) (ok : BlkOk X.N X.env.scope scope own)
    (hg : ∀ (s : Shared) (H : Hp) (C : Addr) (cl : List (Str × Addr)) (fp : List Addr), PG (X.blk s H scope (compEnvC scope cl C X.env) fp) tg g) (ht : ∀ (s : Shared) (H : Hp) (C : Addr) (cl : List (Str × Addr)) (fp : List Addr), PTs (X.blk s H scope (compEnvC scope cl C X.env) fp) ifs tt)
    (hk : ∀ (s : Shared) (H : Hp) (C : Addr) (cl : List (Str × Addr)) (fp : List Addr), PE (X.blk s H scope (compEnvC scope cl C X.env) fp) kx tk) (hv : ∀ (s : Shared) (H : Hp) (C : Addr) (cl : List (Str × Addr)) (fp : List Addr), PE (X.blk s H scope (compEnvC scope cl C X.env) fp) vx tv)
    (hs : ∀ x, foldedSetIterable iter X.env x = pure x := by intro _; rfl) : PE X (.DictComp kx vx [⟨tg, iter, ifs, 0⟩] scope pos) (tDg o r wi g tt tk tv (own.map (·.2))) := by
  refine ⟨fun pins s σ H Q I h => ?_⟩
  rw [arm_eval_DictComp]
  exact dg_core ho hr hc hN I hi ok hg ht hk hv hs h fun D C s' m H' I' q hn f => ⟨m, hn, fun h2 sb => ⟨.ref D, H', I'.turned (t' := s'.toks) (fun b ob hb e => (sb.2 b hb).trans e) f.1 f.2.1 f.2.2.2.1 f.2.2.2.2.1 f.2.2.2.2.2, rfl, q⟩⟩
/-- y = {..}, y a local, on one line -/
theorem ps_setDg {i : Nat} {y : Str} {py : Pos} {kx vx tg iter : Expr} {ifs : List Expr} {scope : Scope} {own : List (Str × Nat)} {pos spos : Pos} {wi : TI} {g : TG} {tt : TT} {tk tv : TE} {o : HO} {r : TPut} (ho : ∀ (H : Hp) (h : Heap), sysModules < h.objs.size → ObjOk X.prog X.w H (h.push { cls := .type "dict", data := .dict #[] }) h.objs.size o) (hr : PutR X.prog X.w X.A r)
    (hc : X.calm = true) (hN : X.N.Nodup) (hy : X.N[i]? = some y) (hyl : X.env.scope.names.lookup y = some .local) (hsw : swapsWith (.DictComp kx vx [⟨tg, iter, ifs, 0⟩] scope pos) (some (.Name y py)) spos.line X.env = pure true) (hi : PI X tg iter wi) (ok : BlkOk X.N X.env.scope scope own)
    (hg : ∀ (s : Shared) (H : Hp) (C : Addr) (cl : List (Str × Addr)) (fp : List Addr), PG (X.blk s H scope (compEnvC scope cl C X.env) fp) tg g) (ht : ∀ (s : Shared) (H : Hp) (C : Addr) (cl : List (Str × Addr)) (fp : List Addr), PTs (X.blk s H scope (compEnvC scope cl C X.env) fp) ifs tt)
    (hk : ∀ (s : Shared) (H : Hp) (C : Addr) (cl : List (Str × Addr)) (fp : List Addr), PE (X.blk s H scope (compEnvC scope cl C X.env) fp) kx tk) (hv : ∀ (s : Shared) (H : Hp) (C : Addr) (cl : List (Str × Addr)) (fp : List Addr), PE (X.blk s H scope (compEnvC scope cl C X.env) fp) vx tv)
    (hs : ∀ x, foldedSetIterable iter X.env x = pure x := by intro _; rfl) : PS X (.Assign [.Name y py] (.DictComp kx vx [⟨tg, iter, ifs, 0⟩] scope pos) spos) (tAsg (tDg o r wi g tt tk tv (own.map (·.2))) (gName i)) := by
  refine ⟨fun pins s σ H D I h => ?_⟩
  rw [exec_Assign_Name_used _ _ _ _ hsw]
  refine wpAny_bind (wpAny_standAt (wpAny_bind ?_))
  show wpAny _ X.A (do let _ ← comprehension (.DictComp kx vx [⟨tg, iter, ifs, 0⟩] scope pos) scope X.env (firstIterPos [⟨tg, iter, ifs, 0⟩] pos) newDict false (eval iter X.env) (some (assign (.Name y py) X.env))) _ _ s
  have h2 : tDg o r wi g tt tk tv (own.map (·.2)) σ H (fun x H1 => gName i x σ H1 D.nx) := h
  refine wpAny_bind (thn (dg_core (Qf := fun _ s' => SP X pins D .next s') ho hr hc hN I hi ok hg ht hk hv hs h2 fun L C s' m H' I' q hn f => ?_) fun _ s' hq => wpAny_pure (wpAny_pure hq))
  refine wpAny_assign_Name (store_ok2 (v := V.ref L) I' hN hy (.inl hyl) rfl (fun s2 I2 ⟨a, sb, ha⟩ => ?_) (.inr hyl))
  have apart : C ≠ a := fun e => ha.elim (fun z => f.2.1 (e.trans z)) fun z => f.2.2.2.2.1 y a z e.symm
  exact ⟨m, hn.sameBut sb apart, fun h3 sb3 => ⟨_, H', I2.turned (t' := s2.toks) (fun b ob hb e => (sb3.2 b hb).trans e) f.1 f.2.1 f.2.2.2.1 f.2.2.2.2.1 f.2.2.2.2.2, q⟩⟩
theorem swD {kx vx : Expr} {gs : List Comprehension} {scope : Scope} {pos py : Pos} {y : Str} {l : Nat} {env : Env} (hk : env.scope.kind = .function) (hy : env.scope.names.lookup y = some .local) (hl : (py.line == pos.line) = true)
    (ha : (scope.names.any fun (n, k) => n == y && (k == .local || k == .cell)) = false) : swapsWith (.DictComp kx vx gs scope pos) (some (.Name y py)) l env = pure true := by
  have e1 : env.kindOf y = some .local := hy
  have e2 : env.blockKind = .function := by unfold Env.blockKind; rw [hk]; rfl
  unfold swapsWith
  simp only [e1, e2, ha, Expr.pos, hl]
  rfl
end
/-- the two kinds -/
theorem okK {P : Program} {w : World} (H : Hp) (h : Heap) (b : sysModules < h.objs.size) : ObjOk P w H (h.push { cls := .type "dict", data := .dict #[] }) h.objs.size (.dK []) := dk_empty h b
theorem okT {P : Program} {w : World} (H : Hp) (h : Heap) (b : sysModules < h.objs.size) : ObjOk P w H (h.push { cls := .type "dict", data := .dict #[] }) h.objs.size (.dT []) := dt_empty h b
/-- over anything that is walked -/
theorem dg_it {J : It} {n : Nat} {G : Hp → Prop} {Y : Nat → Hp → V → Hp → Prop} (wk : Walk J n G Y) {g : TG} {tt : TT} {tk tv : TE} {vs : List Nat} {σ : L2.St} {H1 : Hp} {D : Addr} {Qd : Hp → Prop} {o : HO} {r : TPut} (Pv : Nat → Hp → Prop) (h0 : Pv 0 (upd H1 D o)) (hG : ∀ i H, i ≤ n → Pv i H → G H)
    (hs : ∀ i x H H', i < n → Pv i H → Y i H x H' → g x (wipe σ vs) H' fun σ2 H2 => wipe σ2 vs = wipe σ vs ∧ tt σ2 H2 fun b H3 => if b = true then tk σ2 H3 fun y H4 => tv σ2 H4 fun z H5 => r D y z H5 (Pv (i + 1)) else Pv (i + 1) H3) (hd : ∀ H, Pv n H → Qd H) :
    ∃ W : Nat → Nat → Hp → Prop, (∃ m, W 0 m (upd H1 D o)) ∧ ∀ i m H, W i m H → (J.stop i H ∧ Qd H) ∨ (J.go i H ∧ ∃ Nx : Hp → Prop, (∀ H', Nx H' → ∃ m', m' < m ∧ W (i + 1) m' H') ∧
      ∀ x H', J.yld i H x H' → g x (wipe σ vs) H' fun σ2 H2 => wipe σ2 vs = wipe σ vs ∧ tt σ2 H2 fun b H3 => if b = true then tk σ2 H3 fun y H4 => tv σ2 H4 fun z H5 => r D y z H5 Nx else Nx H3) := by
  refine ⟨fun i m H => m + i = n ∧ Pv i H, ⟨n, rfl, h0⟩, fun i m H ⟨e, p⟩ => ?_⟩
  have q := hG i H (by omega) p
  by_cases lt : i < n
  · exact .inr ⟨wk.goes i H lt q, Pv (i + 1), fun H' p' => ⟨m - 1, by omega, by omega, p'⟩, fun x H' y => hs i x H H' lt p (wk.yields i H x H' lt q y)⟩
  · obtain rfl : i = n := by omega
    exact .inl ⟨wk.stops H q, hd H p⟩
end K68
set_option maxRecDepth 100000
set_option maxHeartbeats 400000
namespace K68
open PySem PySem.Spec PyProof.Rows L2
/-! ### order of data -/
def rLtD (K : PySem.W.Frag) : R2 := fun x y H Q => ∃ d e, Dp K H x d ∧ Dp K H y e ∧ PySem.W.alike d e = true ∧ d ≠ .none ∧ d.depth ≤ 32 ∧ Q (.bl (PySem.W.dataLt d e)) H
theorem op_ltD {X : Cx} (hu : X.A.units + 64 < cLine) : OpR X (compareOp .Lt) (rLtD X.K) := fun pins s σ H x y v u Q I rx ry h => by
  obtain ⟨d, e, hd, he, al, nn, dp, q⟩ := h
  obtain ⟨as, r1⟩ := Dp.reads I d x v hd rx
  obtain ⟨bs, r2⟩ := Dp.reads I e y u he ry
  exact PySem.W.lt_data r1 r2 al nn (by have := Nat.min_le_left d.depth e.depth; omega) ⟨.bl _, H, I, rfl, q⟩
/-- sorted of what is in order: a new list of the same items -/
def rSortedId (K : PySem.W.Frag) : List V → Hp → VK → Prop := fun vs H Q => ∃ (a : Addr) (xs : List V) (ds : List PyData), vs = [V.ref a] ∧ SqL K H a xs ∧ DpAll K H xs ds ∧ (∀ d ∈ ds, (∃ x r, d = .tuple (x :: r)) ∧ d.depth ≤ 32) ∧
  (∀ d ∈ ds, ∀ e ∈ ds, PySem.W.alike d e = true) ∧ ds.Pairwise (fun d e => PySem.W.dataLt e d = false) ∧ ∀ p, H p = none → Q (.ref p) (upd H p (.lst xs))
theorem each_of {R : Value → V × PyData → Prop} : ∀ {us : List Value} {xs : List V} {ds : List PyData}, Vals xs us → xs.length = ds.length → (∀ u x d, RelV x u → R u (x, d)) → PySem.W.EachIs R us (xs.zip ds)
  | _, [], [], .nil, _, _ => .nil
  | _, _ :: _, [], _, h, _ => by simp at h
  | _, [], _ :: _, _, h, _ => by simp at h
  | _, x :: xs, d :: ds, .cons r t, h, f => .cons (f _ _ _ r) (each_of t (by simpa using h) f)
theorem each_reads {h : Heap} : ∀ {us : List Value} {xs : List V} {ds : List PyData} {as : List Addr}, ReadsAll h us ds as → xs.length = ds.length → PySem.W.EachIs (fun u (b : V × PyData) => ∃ as, Reads h u b.2 as) us (xs.zip ds)
  | _, [], [], _, .nil, _ => .nil
  | _, _ :: _, [], _, _, h => by simp at h
  | _, [], _ :: _, _, _, h => by simp at h
  | _, x :: xs, d :: ds, _, .cons r t, h => .cons ⟨_, r⟩ (each_reads t (by simpa using h))
theorem each_vals : ∀ {us : List Value} {bs : List (V × PyData)}, PySem.W.EachIs (fun u b => RelV b.1 u) us bs → Vals (bs.map (·.1)) us
  | _, _, .nil => .nil
  | _, _, .cons r t => .cons r (each_vals t)
theorem dpAll_len {K : PySem.W.Frag} {H : Hp} : ∀ {xs : List V} {ds : List PyData}, DpAll K H xs ds → xs.length = ds.length
  | _, _, .nil => rfl
  | _, _, .cons _ t => congrArg Nat.succ (dpAll_len t)
theorem cr_sortedId {X : Cx} (hu : X.A.units + 64 < cLine) : CallR X (.builtin "sorted") (rSortedId X.K) := fun pins s σ H vs us Q I r h => by
  obtain ⟨a, xs, ds, rfl, hs, hd, tup, al, ord, q⟩ := h
  obtain rfl := Vals.ref1 r
  obtain ⟨its, rv, hl, hz⟩ := I.list hs
  obtain ⟨as, rs⟩ := Dp.readsAll I ds xs its hd rv
  have len := dpAll_len hd
  have m2 : (xs.zip ds).map (·.2) = ds := List.map_snd_zip (by omega)
  have m1 : (xs.zip ds).map (·.1) = xs := List.map_fst_zip (by omega)
  have same : (xs.zip ds).mergeSort (PySem.W.dataLe false Prod.snd) = xs.zip ds := by
    refine List.mergeSort_of_pairwise ?_
    have o2 : ((xs.zip ds).map (·.2)).Pairwise (fun d e => PySem.W.dataLt e d = false) := m2.symm ▸ ord
    refine (List.pairwise_map.mp o2).imp fun {b c} hbc => ?_
    rw [PySem.W.dataLe_eq]
    show (!PySem.W.dataLt c.2 b.2) = true
    rw [hbc]
    rfl
  refine PySem.W.sorted_data (R := fun u b => RelV b.1 u) (bs := xs.zip ds) (enc := Prod.snd) hl.isList (each_of (us := its) rv len fun _ _ _ r => r) (each_reads (us := its) rs len) (fun d hd e he => ?_) (.inl fun d hd => ?_) ?_ (fun b hb => ?_) fun out ol oe => ?_
  · rw [m2] at hd he
    exact al d hd e he
  · rw [m2] at hd
    exact (tup d hd).1
  · rw [List.length_zip]
    omega
  · have hb2 : b.2 ∈ ds := m2 ▸ List.mem_map.mpr ⟨b, hb, rfl⟩
    have := (tup _ hb2).2
    omega
  · rw [same] at oe
    have ov := each_vals oe
    rw [m1] at ov
    obtain ⟨ep, he⟩ := PyProof.Rows.sortedAll_at s.heap its (List.toArray out)
    exact ⟨.ref _, upd H (s.heap.objs.size + 1) (.lst xs), I.laid (t' := s.toks) (fun _ _ => PyProof.Rows.sortedAll_old) (Nat.le_succ _) ⟨hz, out, ep, ov, he⟩, rfl, q _ (I.hok.fresh (Nat.le_succ _))⟩
/-- the least of pairs of ints -/
abbrev pairD (p : Int × Int) : PyData := .tuple [.int p.1, .int p.2]
def rMinP (K : PySem.W.Frag) : List V → Hp → VK → Prop := fun vs H Q => ∃ (a : Addr) (xs : List V) (ps : List (Int × Int)), vs = [V.ref a] ∧ SqL K H a xs ∧ DpAll K H xs (ps.map pairD) ∧ ps ≠ [] ∧
  ∀ (i : Nat) x p, xs[i]? = some x → ps[i]? = some p → (∀ q ∈ ps, p.1 < q.1 ∨ (p.1 = q.1 ∧ p.2 ≤ q.2)) → Q x H
abbrev ltP (p q : Int × Int) : Bool := PySem.W.DatumOrd.lt p q
theorem ltP_eq (p q : Int × Int) : ltP p q = decide (p.1 < q.1 ∨ (p.1 = q.1 ∧ p.2 < q.2)) := by
  show (if p.1 = q.1 then decide (p.2 < q.2) else decide (p.1 < q.1)) = _
  by_cases h : p.1 = q.1
  · rw [if_pos h]
    by_cases h2 : p.2 < q.2
    · rw [decide_eq_true h2, decide_eq_true (.inr ⟨h, h2⟩)]
    · rw [decide_eq_false h2, decide_eq_false (by omega)]
  · rw [if_neg h]
    by_cases h2 : p.1 < q.1
    · rw [decide_eq_true h2, decide_eq_true (.inl h2)]
    · rw [decide_eq_false h2, decide_eq_false (by omega)]
theorem minOf_le : ∀ (xs : List (Int × Int)) (x : Int × Int), ∀ q ∈ x :: xs, (PySem.W.minOf x xs).1 < q.1 ∨ ((PySem.W.minOf x xs).1 = q.1 ∧ (PySem.W.minOf x xs).2 ≤ q.2)
  | [], x, q, hq => by
    obtain rfl := List.mem_singleton.mp hq
    exact .inr ⟨rfl, Int.le_refl _⟩
  | y :: ys, x, q, hq => by
    have e : PySem.W.minOf x (y :: ys) = PySem.W.minOf (if ltP y x = true then y else x) ys := rfl
    rw [e]
    have ih := minOf_le ys (if ltP y x = true then y else x)
    have hd := ih _ List.mem_cons_self
    rcases List.mem_cons.mp hq with rfl | hq
    · by_cases c : ltP y q = true
      · rw [if_pos c] at hd ⊢
        rw [ltP_eq, decide_eq_true_eq] at c
        omega
      · rw [if_neg c] at hd ⊢
        exact hd
    · rcases List.mem_cons.mp hq with rfl | hq
      · by_cases c : ltP q x = true
        · rw [if_pos c] at hd ⊢
          exact hd
        · rw [if_neg c] at hd ⊢
          rw [ltP_eq, decide_eq_true_eq] at c
          omega
      · exact ih q (List.mem_cons_of_mem _ hq)
theorem cr_minP {X : Cx} (hc : X.calm = true) (hu : X.A.units + 64 < cLine) : CallR X (.builtin "min") (rMinP X.K) := fun pins s σ H vs us Q I r h => by
  obtain ⟨a, xs, ps, rfl, hs, hd, ne, q⟩ := h
  obtain rfl := Vals.ref1 r
  obtain ⟨its, rv, hl, hz⟩ := I.list hs
  obtain ⟨as, rs⟩ := Dp.readsAll I _ xs its hd rv
  cases ps with
  | nil => exact absurd rfl ne
  | cons p0 pr =>
    have al := PySem.W.alikeAll_datum (p0 :: pr)
    have rs2 : ReadsAll s.heap its.toArray.toList (pairD p0 :: pr.map pairD) as := rs
    have dep : PyData.depthAll (pairD p0 :: pr.map pairD) ≤ 2 := Nat.le_trans (PySem.W.depthAll_map (p0 :: pr)) (by decide)
    refine PySem.W.min_list_data (I.ok.hd hc) hl.isList rs2 al (by omega) fun i v h2 tk bs hi rm hk => ?_
    have hi2 : its[i]? = some v := by rw [List.getElem?_toArray] at hi; exact hi
    have li : i < its.length := (List.getElem?_eq_some_iff.mp hi2).1
    have lx : i < xs.length := by rw [rv.length]; exact li
    obtain ⟨u, hu2, ru⟩ := rv.get (List.getElem?_eq_getElem lx)
    obtain rfl : u = v := Option.some.inj (hu2.symm.trans hi2)
    have lp : i < (p0 :: pr).length := by
      have := dpAll_len hd
      rw [List.length_map] at this
      omega
    obtain ⟨bs1, r1, _, m1, _⟩ := PySem.W.readsAll_atA rs2 i u hi
    have e1 : (pairD p0 :: pr.map pairD).getD i .none = pairD (p0 :: pr)[i] := by
      show ((p0 :: pr).map pairD).getD i .none = _
      rw [List.getD_eq_getElem?_getD, List.getElem?_map, List.getElem?_eq_getElem lp]
      rfl
    have mD : PySem.W.minD (pairD p0) (pr.map pairD) = pairD (PySem.W.minOf p0 pr) := PySem.W.minD_map p0 pr
    rw [e1] at r1
    rw [mD] at rm
    have eq := PySem.W.alike_unique _ _ _ _ _ (PySem.W.DatumOrd.alike (p0 :: pr)[i] (PySem.W.minOf p0 pr)) (PySem.W.reads_keeps hk r1) rm
    have eq2 : (p0 :: pr)[i] = PySem.W.minOf p0 pr := by
      have e3 : pairD (p0 :: pr)[i] = pairD (PySem.W.minOf p0 pr) := eq
      generalize (p0 :: pr)[i] = b at e3
      simp only [PyData.tuple.injEq, List.cons.injEq, PyData.int.injEq, and_true] at e3
      exact Prod.ext e3.1 e3.2
    exact ⟨xs[i], H, I.kept hk, ru, q i _ _ (List.getElem?_eq_getElem lx) (List.getElem?_eq_getElem lp) (by rw [eq2]; exact minOf_le pr p0)⟩
end K68
/-! The plain law: slopes, caps, gaps, tables. -/
namespace K68

/-- arrows of each place: (pay, goal) -/
abbrev Tr := Nat → List (Nat × Nat)

/-- the change of coins behind one letter of a stake -/
def chg (e : (Nat × Nat) × Nat) (x : List Nat) : Int := (e.1.1 : Int) * (e.2 : Int) - (x.sum : Int)

def Held (tr : Tr) (L : Int) (A : Nat → Prop) (s : Nat → Int) (p : Nat) : Prop :=
  ∀ x : List Nat, x.length = (tr p).length → (x.sum : Int) ≤ L → ∃ e ∈ (tr p).zip x, A e.1.2 ∧ chg e x + s e.1.2 ≤ s p
structure Slope (tr : Tr) (L : Int) (n : Nat) (A : Nat → Prop) (s : Nat → Int) : Prop where
  low : ∀ p, A p → p < n
  held : ∀ p, A p → Held tr L A s p
/-- the place has a slope -/
def Sl (tr : Tr) (L : Int) (n : Nat) (p : Nat) : Prop := ∃ A s, Slope tr L n A s ∧ A p

structure Wf (tr : Tr) (n : Nat) : Prop where
  goal : ∀ p, p < n → ∀ a ∈ tr p, a.2 < n
  pay : ∀ p, p < n → ∀ a ∈ tr p, a.1 ≤ 9
  some : ∀ p, p < n → tr p ≠ []

/-! ### sums of absolute values -/
def sumAbs (s : Nat → Int) : Nat → Int
  | 0 => 0
  | n + 1 => sumAbs s n + (s n).natAbs
theorem sumAbs_nonneg (s : Nat → Int) : ∀ n, 0 ≤ sumAbs s n
  | 0 => Int.le_refl 0
  | n + 1 => by
    have := sumAbs_nonneg s n
    show 0 ≤ sumAbs s n + _
    omega
theorem sumAbs_le (s : Nat → Int) : ∀ n q, q < n → ((s q).natAbs : Int) ≤ sumAbs s n
  | 0, q, h => by omega
  | n + 1, q, h => by
    have h0 := sumAbs_nonneg s n
    show _ ≤ sumAbs s n + _
    by_cases e : q = n
    · subst e; omega
    · have := sumAbs_le s n q (by omega)
      omega

theorem mem_sum : ∀ {x : List Nat} {v : Nat}, v ∈ x → v ≤ x.sum
  | [], _, h => by simp at h
  | a :: r, v, h => by
    rcases List.mem_cons.mp h with e | e
    · subst e; simp
    · have := mem_sum e
      rw [List.sum_cons]
      omega
theorem zip_r {α β : Type} {l : List α} {x : List β} {e : α × β} (h : e ∈ l.zip x) : e.1 ∈ l ∧ e.2 ∈ x := by
  obtain ⟨a, b⟩ := e
  exact ⟨(List.of_mem_zip h).1, (List.of_mem_zip h).2⟩
theorem chg_le {tr : Tr} {n : Nat} {L : Int} {p : Nat} (wf : Wf tr n) (hp : p < n) {x : List Nat} (hs : (x.sum : Int) ≤ L) {e : (Nat × Nat) × Nat} (he : e ∈ (tr p).zip x) : chg e x ≤ 9 * L := by
  have h1 := wf.pay p hp e.1 (zip_r he).1
  have h2 := mem_sum (zip_r he).2
  have h3 : (e.1.1 : Int) * (e.2 : Int) ≤ 9 * (e.2 : Int) := Int.mul_le_mul_of_nonneg_right (by omega) (by omega)
  unfold chg
  omega
theorem chg_ge {x : List Nat} {e : (Nat × Nat) × Nat} : -(x.sum : Int) ≤ chg e x := by
  have h3 : 0 ≤ (e.1.1 : Int) * (e.2 : Int) := Int.mul_nonneg (by omega) (by omega)
  unfold chg
  omega

/-! ### slopes together -/
open Classical in
theorem lift {tr : Tr} {L : Int} {n : Nat} (wf : Wf tr n) {A B : Nat → Prop} {s s' : Nat → Int} (hA : Slope tr L n A s) (hlow : ∀ p, B p → p < n)
    (hB : ∀ p, B p → ¬ A p → ∀ x : List Nat, x.length = (tr p).length → (x.sum : Int) ≤ L → ∃ e ∈ (tr p).zip x, A e.1.2 ∨ (B e.1.2 ∧ chg e x + s' e.1.2 ≤ s' p)) :
    ∃ s2, Slope tr L n (fun p => A p ∨ B p) s2 := by
  refine ⟨fun q => if A q then s q else s' q + (9 * L + sumAbs s n + sumAbs s' n), fun p h => h.elim (hA.low p) (hlow p), fun p hp x hl hs => ?_⟩
  by_cases a : A p
  · obtain ⟨e, he, ha, hc⟩ := hA.held p a x hl hs
    refine ⟨e, he, .inl ha, ?_⟩
    simp only [if_pos ha, if_pos a]
    exact hc
  · have b : B p := hp.resolve_left a
    have pn := hlow p b
    obtain ⟨e, he, hc⟩ := hB p b a x hl hs
    have gn : e.1.2 < n := wf.goal p pn e.1 (zip_r he).1
    by_cases ga : A e.1.2
    · refine ⟨e, he, .inl ga, ?_⟩
      simp only [if_pos ga, if_neg a]
      have c1 := chg_le wf pn hs he
      have c2 := sumAbs_le s n _ gn
      have c3 := sumAbs_le s' n _ pn
      omega
    · obtain ⟨gb, hc⟩ := hc.resolve_left ga
      refine ⟨e, he, .inr gb, ?_⟩
      simp only [if_neg ga, if_neg a]
      omega
theorem join {tr : Tr} {L : Int} {n : Nat} (wf : Wf tr n) {A B : Nat → Prop} {s s' : Nat → Int} (hA : Slope tr L n A s) (hB : Slope tr L n B s') : ∃ s2, Slope tr L n (fun p => A p ∨ B p) s2 :=
  lift wf hA hB.low fun p b _ x hl hs => by
    obtain ⟨e, he, h1, h2⟩ := hB.held p b x hl hs
    exact ⟨e, he, .inr ⟨h1, h2⟩⟩
theorem zip_at {α β : Type} : ∀ {l : List α} {x : List β} {a : α}, x.length = l.length → a ∈ l → ∃ e ∈ l.zip x, e.1 = a
  | [], _, _, _, h => by simp at h
  | b :: l, [], _, hl, _ => by simp at hl
  | b :: l, y :: x, a, hl, h => by
    rcases List.mem_cons.mp h with e | e
    · subst e
      exact ⟨(a, y), by simp, rfl⟩
    · obtain ⟨e', h1, h2⟩ := zip_at (x := x) (by simpa using hl) e
      exact ⟨e', by rw [List.zip_cons_cons]; exact List.mem_cons_of_mem _ h1, h2⟩
/-- a place with an arrow to a place that has a slope -/
theorem Sl.back {tr : Tr} {L : Int} {n p : Nat} (wf : Wf tr n) (hp : p < n) {a : Nat × Nat} (ha : a ∈ tr p) (h : Sl tr L n a.2) : Sl tr L n p := by
  obtain ⟨A, s, hA, h1⟩ := h
  obtain ⟨s2, h2⟩ := lift (B := fun q => q = p) (s' := fun _ => 0) wf hA (fun q e => by subst e; exact hp) fun q e _ x hl hs => by
    subst e
    obtain ⟨e, he, ee⟩ := zip_at hl ha
    exact ⟨e, he, .inl (by rw [ee]; exact h1)⟩
  exact ⟨_, s2, h2, .inr rfl⟩
/-- all places that have one have one together -/
theorem sl_all {tr : Tr} {L : Int} {n : Nat} (wf : Wf tr n) : ∃ s, Slope tr L n (Sl tr L n) s := by
  have step : ∀ m, ∃ A s, Slope tr L n A s ∧ ∀ p, p < m → Sl tr L n p → A p := by
    intro m
    induction m with
    | zero => exact ⟨fun _ => False, fun _ => 0, ⟨fun _ h => h.elim, fun _ h => h.elim⟩, fun p h => by omega⟩
    | succ m ih =>
      obtain ⟨A, s, h1, h2⟩ := ih
      by_cases q : Sl tr L n m
      · obtain ⟨B, s', h3, h4⟩ := q
        obtain ⟨s2, h5⟩ := join wf h1 h3
        refine ⟨_, s2, h5, fun p hp hs => ?_⟩
        by_cases e : p = m
        · subst e; exact .inr h4
        · exact .inl (h2 p (by omega) hs)
      · refine ⟨A, s, h1, fun p hp hs => ?_⟩
        by_cases e : p = m
        · subst e; exact absurd hs q
        · exact h2 p (by omega) hs
  obtain ⟨A, s, h1, h2⟩ := step n
  have e : A = Sl tr L n := funext fun p => propext ⟨fun a => ⟨A, s, h1, a⟩, fun h => by
    obtain ⟨B, s', h3, h4⟩ := id h
    exact h2 p (h3.low p h4) h⟩
  exact ⟨s, e ▸ h1⟩
theorem Sl.lt {tr : Tr} {L : Int} {n p : Nat} (h : Sl tr L n p) : p < n := by
  obtain ⟨A, s, h1, h2⟩ := h
  exact h1.low p h2
/-- moved up by a constant: from 0 on -/
theorem slope_up {tr : Tr} {L : Int} {n : Nat} {A : Nat → Prop} {s : Nat → Int} (h : Slope tr L n A s) : ∃ s', Slope tr L n A s' ∧ ∀ p, A p → 0 ≤ s' p := by
  refine ⟨fun p => s p + sumAbs s n, ⟨h.low, fun p a x hl hs => ?_⟩, fun p a => ?_⟩
  · obtain ⟨e, he, h1, h2⟩ := h.held p a x hl hs
    refine ⟨e, he, h1, ?_⟩
    show chg e x + (s e.1.2 + sumAbs s n) ≤ s p + sumAbs s n
    omega
  · have := sumAbs_le s n p (h.low p a)
    show 0 ≤ s p + sumAbs s n
    omega

/-! ### full lots -/
/-- the reciprocals of the letters back into F come to one or more -/
def wt (pay : Nat) : Nat := if pay > 0 then 2520 / pay else 2520
def wtBack (F : Nat → Bool) (as : List (Nat × Nat)) : Nat := ((as.filter fun a => F a.2).map fun a => wt a.1).sum
theorem wt_mul {pay v S : Nat} (h9 : pay ≤ 9) (h : (S : Int) < pay * v) : wt pay * S < 2520 * v := by
  have h' : S < pay * v := by exact_mod_cast h
  have hc : pay = 0 ∨ pay = 1 ∨ pay = 2 ∨ pay = 3 ∨ pay = 4 ∨ pay = 5 ∨ pay = 6 ∨ pay = 7 ∨ pay = 8 ∨ pay = 9 := by omega
  rcases hc with e | e | e | e | e | e | e | e | e | e <;> subst e <;> simp [wt] <;> omega
theorem full_sum {F : Nat → Bool} {S : Nat} : ∀ {as : List (Nat × Nat)} {x : List Nat}, (∀ a ∈ as, a.1 ≤ 9) → x.length = as.length →
    (∀ e ∈ as.zip x, F e.1.2 = true → (S : Int) < e.1.1 * e.2) → wtBack F as * S ≤ 2520 * x.sum ∧ (0 < wtBack F as → wtBack F as * S < 2520 * x.sum)
  | [], x, _, hl, _ => by
    refine ⟨by simp [wtBack], fun h => by simp [wtBack] at h⟩
  | a :: as, [], _, hl, _ => by simp at hl
  | a :: as, v :: x, h9, hl, h => by
    have ih := full_sum (F := F) (S := S) (as := as) (x := x) (fun b hb => h9 b (List.mem_cons_of_mem _ hb)) (by simpa using hl) (fun e he hf => h e (by rw [List.zip_cons_cons]; exact List.mem_cons_of_mem _ he) hf)
    by_cases f : F a.2 = true
    · have e1 : wtBack F (a :: as) = wt a.1 + wtBack F as := by simp [wtBack, f]
      have k := wt_mul (h9 a (by simp)) (h (a, v) (by simp) f)
      rw [e1, List.sum_cons, Nat.add_mul, Nat.mul_add]
      refine ⟨by omega, fun _ => by omega⟩
    · have e1 : wtBack F (a :: as) = wtBack F as := by simp [wtBack, f]
      rw [e1, List.sum_cons, Nat.mul_add]
      refine ⟨by omega, fun q => by have := ih.2 q; omega⟩
theorem full_slope {tr : Tr} {L : Int} {n : Nat} (wf : Wf tr n) {F : Nat → Bool} (hF : ∀ p, F p = true → p < n) (hw : ∀ p, F p = true → 2520 ≤ wtBack F (tr p)) : Slope tr L n (fun p => F p = true) (fun _ => 0) := by
  refine ⟨hF, fun p fp x hl hs => ?_⟩
  apply Classical.byContradiction
  intro no
  have all : ∀ e ∈ (tr p).zip x, F e.1.2 = true → ((x.sum : Nat) : Int) < e.1.1 * e.2 := fun e he hf => by
    apply Classical.byContradiction
    intro q
    exact no ⟨e, he, hf, by show chg e x + 0 ≤ 0; unfold chg; omega⟩
  have k := (full_sum (S := x.sum) (wf.pay p (hF p fp)) hl all).2 (by have := hw p fp; omega)
  have := Nat.mul_le_mul_right x.sum (hw p fp)
  omega

/-! ### caps and gaps -/
def Caps (tr : Tr) (L : Int) (S : Nat → Prop) (c : Nat → Int) : Prop :=
  ∀ p, S p → ∀ x : List Nat, x.length = (tr p).length → (x.sum : Int) ≤ L → (x.sum : Int) ≤ c p - 1 → ∃ e ∈ (tr p).zip x, c p + chg e x ≤ c e.1.2
def Closed (tr : Tr) (S : Nat → Prop) : Prop := ∀ p, S p → ∀ a ∈ tr p, S a.2
/-- a stake is enough at p: each letter leads to more, or to as much at a place that is found -/
def EnG (tr : Tr) (L : Int) (c : Nat → Int) (Fd : Nat → Prop) (p : Nat) : Prop :=
  ∃ x : List Nat, x.length = (tr p).length ∧ (x.sum : Int) ≤ L ∧ (x.sum : Int) ≤ c p ∧ ∀ e ∈ (tr p).zip x, c e.1.2 < c p + chg e x ∨ (Fd e.1.2 ∧ c e.1.2 ≤ c p + chg e x)
theorem caps_zero {tr : Tr} {L : Int} {S : Nat → Prop} : Caps tr L S (fun _ => 0) := fun p _ x _ _ h => by
  have h : (x.sum : Int) ≤ 0 - 1 := h
  omega
open Classical in
/-- places that do not gain with c1 may be raised by one, with those caps that were known -/
theorem caps_step {tr : Tr} {L : Int} {S W : Nat → Prop} {c1 ct : Nat → Int} (hc : Caps tr L S ct) (cl : Closed tr S) (hW : ∀ p, S p → W p → ¬ EnG tr L c1 (fun q => ¬ W q) p)
    (hk : ∀ p, S p → ¬ W p → c1 p ≤ ct p) : ∃ c2, Caps tr L S c2 ∧ (∀ p, ct p ≤ c2 p) ∧ ∀ p, W p → c1 p + 1 ≤ c2 p := by
  refine ⟨fun p => max (ct p) (c1 p + if W p then 1 else 0), fun p sp x hl hs hx => ?_, fun p => Int.le_max_left _ _, fun p w => by
    simp only [if_pos w]; exact Int.le_max_right _ _⟩
  by_cases big : ct p < c1 p + (if W p then 1 else 0)
  · have w : W p := by
      apply Classical.byContradiction
      intro nw
      have := hk p sp nw
      simp only [if_neg nw] at big
      omega
    simp only [if_pos w] at big hx ⊢
    have e1 : max (ct p) (c1 p + 1) = c1 p + 1 := by omega
    rw [e1] at hx ⊢
    apply Classical.byContradiction
    intro no
    refine hW p sp w ⟨x, hl, hs, by omega, fun e he => ?_⟩
    apply Classical.byContradiction
    intro q
    refine no ⟨e, he, ?_⟩
    have h2 : c1 e.1.2 + (if W e.1.2 then 1 else 0) ≤ max (ct e.1.2) (c1 e.1.2 + if W e.1.2 then 1 else 0) := Int.le_max_right _ _
    by_cases we : W e.1.2
    · simp only [if_pos we] at h2 ⊢
      have : ¬ c1 e.1.2 < c1 p + chg e x := fun z => q (.inl z)
      omega
    · simp only [if_neg we] at h2 ⊢
      have : ¬ c1 e.1.2 ≤ c1 p + chg e x := fun z => q (.inr ⟨we, z⟩)
      omega
  · have e1 : max (ct p) (c1 p + if W p then 1 else 0) = ct p := by omega
    have hx : (x.sum : Int) ≤ max (ct p) (c1 p + if W p then 1 else 0) - 1 := hx
    rw [e1] at hx
    obtain ⟨e, he, h⟩ := hc p sp x hl hs hx
    show ∃ e ∈ (tr p).zip x, max (ct p) (c1 p + if W p then 1 else 0) + chg e x ≤ max (ct e.1.2) (c1 e.1.2 + if W e.1.2 then 1 else 0)
    rw [e1]
    refine ⟨e, he, Int.le_trans h (Int.le_max_left _ _)⟩
/-- fewer numbers than intervals leave an interval free -/
theorem gap (L : Int) (hL : 0 ≤ L) : ∀ (m : Nat) (l : List Int), l.length < m → ∃ j : Nat, j < m ∧ ∀ v ∈ l, ¬ (L * j < v ∧ v ≤ L * (j + 1))
  | 0, l, h => by omega
  | m + 1, l, h => by
    by_cases q : ∃ v ∈ l, L * (m : Int) < v ∧ v ≤ L * ((m : Int) + 1)
    · obtain ⟨v, hv, h1, h2⟩ := q
      have hlen : (l.erase v).length = l.length - 1 := List.length_erase_of_mem hv
      have hpos : 0 < l.length := List.length_pos_of_mem hv
      obtain ⟨j, hj, k⟩ := gap L hL m (l.erase v) (by omega)
      refine ⟨j, by omega, fun u hu => ?_⟩
      by_cases e : u = v
      · subst e
        rintro ⟨_, h4⟩
        have : L * ((j : Int) + 1) ≤ L * (m : Int) := Int.mul_le_mul_of_nonneg_left (by omega) hL
        omega
      · exact k u ((List.mem_erase_of_ne e).mpr hu)
    · exact ⟨m, by omega, fun v hv z => q ⟨v, hv, z⟩⟩
theorem gap_slope {tr : Tr} {L : Int} {n n0 : Nat} (hL : 0 ≤ L) {S : Nat → Prop} {c : Nat → Int} (hc : Caps tr L S c) (cl : Closed tr S) (low : ∀ p, S p → p < n) (ks : List Nat) (hks : ∀ p, S p → p ∈ ks) (hlen : ks.length ≤ n0)
    {p : Nat} (sp : S p) (hp : L * n0 < c p) : Sl tr L n p := by
  have hpos : 0 < ks.length := List.length_pos_of_mem (hks p sp)
  have hl1 : ((ks.erase p).map c).length = ks.length - 1 := by rw [List.length_map, List.length_erase_of_mem (hks p sp)]
  obtain ⟨j, hj, k⟩ := gap L hL n0 ((ks.erase p).map c) (by omega)
  have mono : L * ((j : Int) + 1) ≤ L * (n0 : Int) := Int.mul_le_mul_of_nonneg_left (by omega) hL
  have free : ∀ q, S q → ¬ (L * j < c q ∧ c q ≤ L * (j + 1)) := fun q sq => by
    by_cases e : q = p
    · subst e; omega
    · exact k (c q) (List.mem_map.mpr ⟨q, (List.mem_erase_of_ne e).mpr (hks q sq), rfl⟩)
  have e1 : L * ((j : Int) + 1) = L * j + L := by rw [Int.mul_add, Int.mul_one]
  have j0 : 0 ≤ L * (j : Int) := Int.mul_nonneg hL (by omega)
  refine ⟨fun q => S q ∧ L * (j + 1) < c q, fun q => - c q, ⟨fun q h => low q h.1, fun q h x hl hs => ?_⟩, sp, by omega⟩
  obtain ⟨e, he, z⟩ := hc q h.1 x hl hs (by have := h.2; omega)
  have sg : S e.1.2 := cl q h.1 e.1 (zip_r he).1
  have := @chg_ge x e
  have f := free e.1.2 sg
  have h2 := h.2
  refine ⟨e, he, ⟨sg, ?_⟩, ?_⟩
  · apply Classical.byContradiction
    intro ng
    exact f ⟨by omega, by omega⟩
  · show chg e x + - c e.1.2 ≤ - c q
    omega

/-! ### tables -/
theorem table_no_slope {tr : Tr} {L : Int} {n : Nat} {S : Nat → Prop} {c : Nat → Int} {t : Nat → Nat} (cl : Closed tr S) (hT : ∀ p, S p → EnG tr L c (fun q => t q < t p) p) {p : Nat} (sp : S p) : ¬ Sl tr L n p := by
  rintro ⟨A, s, hA, ap⟩
  have main : ∀ (m : Nat) (k : Nat) (q : Nat), S q → A q → (c q + s q + (sumAbs c n + sumAbs s n)).toNat ≤ m → t q ≤ k → False := by
    intro m
    induction m with
    | zero =>
      intro k
      induction k with
      | zero =>
        intro q sq aq hm hk
        obtain ⟨x, hl, hs, _, hx⟩ := hT q sq
        obtain ⟨e, he, ae, h1⟩ := hA.held q aq x hl hs
        have se := cl q sq e.1 (zip_r he).1
        have b1 := sumAbs_le c n _ (hA.low _ ae)
        have b2 := sumAbs_le s n _ (hA.low _ ae)
        have b3 := sumAbs_le c n _ (hA.low _ aq)
        have b4 := sumAbs_le s n _ (hA.low _ aq)
        rcases hx e he with h2 | ⟨h2, h3⟩
        · omega
        · omega
      | succ k ih =>
        intro q sq aq hm hk
        obtain ⟨x, hl, hs, _, hx⟩ := hT q sq
        obtain ⟨e, he, ae, h1⟩ := hA.held q aq x hl hs
        have se := cl q sq e.1 (zip_r he).1
        have b1 := sumAbs_le c n _ (hA.low _ ae)
        have b2 := sumAbs_le s n _ (hA.low _ ae)
        have b3 := sumAbs_le c n _ (hA.low _ aq)
        have b4 := sumAbs_le s n _ (hA.low _ aq)
        rcases hx e he with h2 | ⟨h2, h3⟩
        · omega
        · exact ih e.1.2 se ae (by omega) (by omega)
    | succ m ihm =>
      intro k
      induction k with
      | zero =>
        intro q sq aq hm hk
        obtain ⟨x, hl, hs, _, hx⟩ := hT q sq
        obtain ⟨e, he, ae, h1⟩ := hA.held q aq x hl hs
        have se := cl q sq e.1 (zip_r he).1
        have b1 := sumAbs_le c n _ (hA.low _ ae)
        have b2 := sumAbs_le s n _ (hA.low _ ae)
        have b3 := sumAbs_le c n _ (hA.low _ aq)
        have b4 := sumAbs_le s n _ (hA.low _ aq)
        rcases hx e he with h2 | ⟨h2, h3⟩
        · exact ihm (t e.1.2) e.1.2 se ae (by omega) (Nat.le_refl _)
        · omega
      | succ k ih =>
        intro q sq aq hm hk
        obtain ⟨x, hl, hs, _, hx⟩ := hT q sq
        obtain ⟨e, he, ae, h1⟩ := hA.held q aq x hl hs
        have se := cl q sq e.1 (zip_r he).1
        have b1 := sumAbs_le c n _ (hA.low _ ae)
        have b2 := sumAbs_le s n _ (hA.low _ ae)
        have b3 := sumAbs_le c n _ (hA.low _ aq)
        have b4 := sumAbs_le s n _ (hA.low _ aq)
        rcases hx e he with h2 | ⟨h2, h3⟩
        · exact ihm (t e.1.2) e.1.2 se ae (by omega) (Nat.le_refl _)
        · exact ih e.1.2 se ae (by omega) (by omega)
  exact main _ _ p sp ap (Nat.le_refl _) (Nat.le_refl _)
end K68
/-! The plain law, second part: what is needed, what can be reached, the least slope, the loop over coins. -/
namespace K68

/-! ### rounded up -/
def rup (t : Int) (b : Nat) : Int := -(-t / (b : Int))
theorem rup_ge {t : Int} {b : Nat} (hb : 0 < b) : t ≤ b * rup t b := by
  unfold rup
  have h := Int.mul_ediv_self_le (x := -t) (k := (b : Int)) (by omega)
  rw [Int.mul_neg]
  omega
theorem rup_le {t x : Int} {b : Nat} (hb : 0 < b) (h : t ≤ b * x) : rup t b ≤ x := by
  unfold rup
  have h1 : -x ≤ -t / (b : Int) := by
    rw [Int.le_ediv_iff_mul_le (by omega)]
    rw [Int.neg_mul, Int.mul_comm]
    omega
  omega
theorem rup_pos {t : Int} {b : Nat} (hb : 0 < b) (h : 0 < t) : 0 < rup t b := by
  have h1 := rup_ge (t := t) hb
  apply Classical.byContradiction
  intro q
  have h2 : (b : Int) * rup t b ≤ b * 0 := Int.mul_le_mul_of_nonneg_left (by omega) (by omega)
  omega
theorem rup_mono {t t' : Int} {b : Nat} (hb : 0 < b) (h : t ≤ t') : rup t b ≤ rup t' b := rup_le hb (Int.le_trans h (rup_ge hb))

/-! ### needed -/
abbrev Prs := List (Int × Nat)
def EnP (ps : Prs) (L c : Int) : Prop :=
  ∃ x : List Nat, x.length = ps.length ∧ (x.sum : Int) ≤ L ∧ (x.sum : Int) ≤ c ∧ ∀ e ∈ ps.zip x, e.1.1 ≤ c - x.sum + e.1.2 * e.2
def need (k : Int) (q : Int × Nat) : Int := if q.1 ≤ k then 0 else rup (q.1 - k) q.2
def stk (ps : Prs) (k : Int) : Int := (ps.map (need k)).sum
/-- the letters that pay nothing are come to -/
def Fit (ps : Prs) (k : Int) : Prop := ∀ q ∈ ps, q.2 = 0 → q.1 ≤ k
theorem need_nonneg {ps : Prs} {k : Int} (h : Fit ps k) {q : Int × Nat} (hq : q ∈ ps) : 0 ≤ need k q := by
  unfold need
  by_cases e : q.1 ≤ k
  · rw [if_pos e]; exact Int.le_refl 0
  · rw [if_neg e]
    have hb : 0 < q.2 := Nat.pos_of_ne_zero fun z => e (h q hq z)
    have := rup_pos (t := q.1 - k) hb (by omega)
    omega
theorem need_anti {ps : Prs} {k k' : Int} (h : Fit ps k) (hk : k ≤ k') {q : Int × Nat} (hq : q ∈ ps) : need k' q ≤ need k q := by
  by_cases e' : q.1 ≤ k'
  · have := need_nonneg h hq
    have e1 : need k' q = 0 := if_pos e'
    omega
  · have e : ¬ q.1 ≤ k := by omega
    have hb : 0 < q.2 := Nat.pos_of_ne_zero fun z => e (h q hq z)
    unfold need
    rw [if_neg e, if_neg e']
    exact rup_mono hb (by omega)
theorem Fit.tail {q : Int × Nat} {ps : Prs} {k : Int} (h : Fit (q :: ps) k) : Fit ps k := fun r hr => h r (List.mem_cons_of_mem _ hr)
theorem stk_cons (q : Int × Nat) (ps : Prs) (k : Int) : stk (q :: ps) k = need k q + stk ps k := by simp [stk]
theorem stk_nonneg : ∀ {ps : Prs} {k : Int}, Fit ps k → 0 ≤ stk ps k
  | [], _, _ => by simp [stk]
  | q :: ps, k, h => by
    have := stk_nonneg h.tail
    have := need_nonneg h (List.mem_cons_self)
    rw [stk_cons]; omega
theorem stk_anti : ∀ {ps : Prs} {k k' : Int}, Fit ps k → k ≤ k' → stk ps k' ≤ stk ps k
  | [], _, _, _, _ => by simp [stk]
  | q :: ps, k, k', h, hk => by
    have := stk_anti h.tail hk
    have := need_anti h hk (List.mem_cons_self)
    rw [stk_cons, stk_cons]; omega
theorem stk_zero : ∀ {ps : Prs} {k : Int}, (∀ q ∈ ps, q.1 ≤ k) → stk ps k = 0
  | [], _, _ => by simp [stk]
  | q :: ps, k, h => by
    have := stk_zero (ps := ps) (k := k) fun r hr => h r (List.mem_cons_of_mem _ hr)
    have e1 : need k q = 0 := if_pos (h q (List.mem_cons_self))
    rw [stk_cons]; omega
/-- the stake by what is kept -/
theorem stk_stake : ∀ {ps : Prs} {k : Int}, Fit ps k → ∃ x : List Nat, x.length = ps.length ∧ (x.sum : Int) = stk ps k ∧ ∀ e ∈ ps.zip x, e.1.1 ≤ k + e.1.2 * e.2
  | [], _, _ => ⟨[], rfl, by simp [stk], fun e he => by simp at he⟩
  | q :: ps, k, h => by
    obtain ⟨x, h1, h2, h3⟩ := stk_stake h.tail
    have n0 := need_nonneg h (List.mem_cons_self)
    refine ⟨(need k q).toNat :: x, by simp [h1], by rw [List.sum_cons, stk_cons]; omega, fun e he => ?_⟩
    rw [List.zip_cons_cons] at he
    rcases List.mem_cons.mp he with rfl | he
    · show q.1 ≤ k + (q.2 : Int) * ((need k q).toNat : Int)
      have e1 : ((need k q).toNat : Int) = need k q := by omega
      rw [e1]
      by_cases e : q.1 ≤ k
      · have : 0 ≤ (q.2 : Int) * need k q := Int.mul_nonneg (by omega) n0
        omega
      · have hb : 0 < q.2 := Nat.pos_of_ne_zero fun z => e (h q (List.mem_cons_self) z)
        have e2 : need k q = rup (q.1 - k) q.2 := if_neg e
        rw [e2]
        have := rup_ge (t := q.1 - k) hb
        omega
    · exact h3 e he
theorem stk_le : ∀ {ps : Prs} {k : Int} {x : List Nat}, x.length = ps.length → (∀ e ∈ ps.zip x, e.1.1 ≤ k + e.1.2 * e.2) → Fit ps k ∧ stk ps k ≤ x.sum
  | [], _, [], _, _ => ⟨fun q hq => by simp at hq, by simp [stk]⟩
  | [], _, _ :: _, h, _ => by simp at h
  | q :: ps, _, [], h, _ => by simp at h
  | q :: ps, k, v :: x, h, hz => by
    obtain ⟨f, hs⟩ := stk_le (ps := ps) (k := k) (x := x) (by simpa using h) fun e he => hz e (by rw [List.zip_cons_cons]; exact List.mem_cons_of_mem _ he)
    have h0 : q.1 ≤ k + (q.2 : Int) * (v : Int) := hz (q, v) (by rw [List.zip_cons_cons]; exact List.mem_cons_self)
    refine ⟨fun r hr => ?_, ?_⟩
    · rcases List.mem_cons.mp hr with rfl | hr
      · intro z
        rw [z] at h0
        omega
      · exact f r hr
    · rw [stk_cons, List.sum_cons]
      have : need k q ≤ v := by
        unfold need
        by_cases e : q.1 ≤ k
        · rw [if_pos e]; omega
        · rw [if_neg e]
          by_cases z : q.2 = 0
          · rw [z] at h0; omega
          · exact rup_le (Nat.pos_of_ne_zero z) (by omega)
      omega
theorem best {ps : Prs} {L mk low m : Int} (hL : 0 ≤ L) (mk0 : 0 ≤ mk) (mk1 : ∀ k, 0 ≤ k → Fit ps k → mk ≤ k) (mk2 : Fit ps mk) (h1 : mk ≤ low) (h2 : stk ps low ≤ L) (h3 : ∀ k, mk ≤ k → k < low → L < stk ps k)
    (h4 : ∃ k, low ≤ k ∧ k ≤ low + L ∧ m = k + stk ps k) (h5 : ∀ k, low ≤ k → k ≤ low + L → m ≤ k + stk ps k) (c : Int) : m ≤ c ↔ EnP ps L c := by
  have up : ∀ {k k'}, Fit ps k → k ≤ k' → Fit ps k' := fun f hk q hq z => Int.le_trans (f q hq z) hk
  constructor
  · intro hm
    obtain ⟨k, a, b, e⟩ := h4
    have fl := up mk2 h1
    have fk := up fl a
    obtain ⟨x, x1, x2, x3⟩ := stk_stake fk
    have an := stk_anti fl a
    refine ⟨x, x1, by omega, by omega, fun e he => ?_⟩
    have := x3 e he
    omega
  · rintro ⟨x, x1, x2, x3, x4⟩
    obtain ⟨f, hs⟩ := stk_le (k := c - x.sum) x1 x4
    have k1 := mk1 _ (by omega) f
    have k2 : low ≤ c - x.sum := by
      apply Classical.byContradiction
      intro q
      have := h3 _ k1 (by omega)
      omega
    by_cases q : c - x.sum ≤ low + L
    · have := h5 _ k2 q
      omega
    · have := h5 low (Int.le_refl _) (by omega)
      omega
/-- goals of 0 ask nothing -/
def told (ps : Prs) : Prs := ps.filter fun q => decide (q.1 > 0)
theorem told_ext : ∀ {ps : Prs} {k : Int} {x : List Nat}, 0 ≤ k → x.length = (told ps).length → (∀ e ∈ (told ps).zip x, e.1.1 ≤ k + e.1.2 * e.2) → ∃ y : List Nat, y.length = ps.length ∧ y.sum = x.sum ∧ ∀ e ∈ ps.zip y, e.1.1 ≤ k + e.1.2 * e.2
  | [], _, x, _, h, _ => by
    have : x = [] := List.eq_nil_of_length_eq_zero (by simpa [told] using h)
    subst this
    exact ⟨[], rfl, rfl, fun e he => by simp at he⟩
  | q :: ps, k, x, hk, h, hz => by
    by_cases g : q.1 > 0
    · have e1 : told (q :: ps) = q :: told ps := by simp [told, g]
      rw [e1] at h hz
      cases x with
      | nil => simp at h
      | cons v x =>
        rw [List.zip_cons_cons] at hz
        obtain ⟨y, y1, y2, y3⟩ := told_ext (ps := ps) hk (by simpa using h) fun e he => hz e (List.mem_cons_of_mem _ he)
        refine ⟨v :: y, by simp [y1], by simp [y2], fun e he => ?_⟩
        rw [List.zip_cons_cons] at he
        rcases List.mem_cons.mp he with rfl | he
        · exact hz _ (List.mem_cons_self)
        · exact y3 e he
    · have e1 : told (q :: ps) = told ps := by simp [told, g]
      rw [e1] at h hz
      obtain ⟨y, y1, y2, y3⟩ := told_ext (ps := ps) hk h hz
      refine ⟨0 :: y, by simp [y1], by simp [y2], fun e he => ?_⟩
      rw [List.zip_cons_cons] at he
      rcases List.mem_cons.mp he with rfl | he
      · show q.1 ≤ k + (q.2 : Int) * ((0 : Nat) : Int)
        simp
        omega
      · exact y3 e he
theorem told_res : ∀ {ps : Prs} {k : Int} {y : List Nat}, y.length = ps.length → (∀ e ∈ ps.zip y, e.1.1 ≤ k + e.1.2 * e.2) → ∃ x : List Nat, x.length = (told ps).length ∧ x.sum ≤ y.sum ∧ ∀ e ∈ (told ps).zip x, e.1.1 ≤ k + e.1.2 * e.2
  | [], _, y, h, _ => ⟨[], rfl, by simp, fun e he => by simp [told] at he⟩
  | q :: ps, _, [], h, _ => by simp at h
  | q :: ps, k, v :: y, h, hz => by
    rw [List.zip_cons_cons] at hz
    obtain ⟨x, x1, x2, x3⟩ := told_res (ps := ps) (k := k) (y := y) (by simpa using h) fun e he => hz e (List.mem_cons_of_mem _ he)
    by_cases g : q.1 > 0
    · have e1 : told (q :: ps) = q :: told ps := by simp [told, g]
      refine ⟨v :: x, by rw [e1]; simp [x1], by simp; omega, fun e he => ?_⟩
      rw [e1, List.zip_cons_cons] at he
      rcases List.mem_cons.mp he with rfl | he
      · exact hz _ (List.mem_cons_self)
      · exact x3 e he
    · have e1 : told (q :: ps) = told ps := by simp [told, g]
      exact ⟨x, by rw [e1]; exact x1, by simp; omega, by rw [e1]; exact x3⟩
theorem told_en {ps : Prs} {L c : Int} : EnP (told ps) L c ↔ EnP ps L c := by
  constructor
  · rintro ⟨x, x1, x2, x3, x4⟩
    obtain ⟨y, y1, y2, y3⟩ := told_ext (k := c - x.sum) (by omega) x1 x4
    exact ⟨y, y1, by rw [y2]; exact x2, by rw [y2]; exact x3, by rw [y2]; exact y3⟩
  · rintro ⟨y, y1, y2, y3, y4⟩
    obtain ⟨x, x1, x2, x3⟩ := told_res (k := c - y.sum) y1 y4
    refine ⟨x, x1, by omega, by omega, fun e he => ?_⟩
    have := x3 e he
    omega
/-- the pairs at a place -/
def pairsOf (c : Nat → Int) (F : Nat → Bool) (as : List (Nat × Nat)) : Prs := as.map fun a => (c a.2 + (if F a.2 then 0 else 1), a.1)
theorem zip_map_l {α β γ : Type} (f : α → β) : ∀ {l : List α} {x : List γ} {e : β × γ}, e ∈ (l.map f).zip x ↔ ∃ d ∈ l.zip x, e = (f d.1, d.2)
  | [], x, e => by simp
  | a :: l, [], e => by simp
  | a :: l, v :: x, e => by
    rw [List.map_cons, List.zip_cons_cons, List.zip_cons_cons, List.mem_cons, zip_map_l f (l := l)]
    constructor
    · rintro (rfl | ⟨d, hd, rfl⟩)
      · exact ⟨(a, v), List.mem_cons_self, rfl⟩
      · exact ⟨d, List.mem_cons_of_mem _ hd, rfl⟩
    · rintro ⟨d, hd, rfl⟩
      rcases List.mem_cons.mp hd with rfl | hd
      · exact .inl rfl
      · exact .inr ⟨d, hd, rfl⟩
theorem en_pairs {tr : Tr} {L : Int} {c : Nat → Int} {F : Nat → Bool} {p : Nat} : EnP (pairsOf c F (tr p)) L (c p) ↔ EnG tr L c (fun q => F q = true) p := by
  unfold EnP EnG
  refine exists_congr fun x => ?_
  have e1 : (pairsOf c F (tr p)).length = (tr p).length := by simp [pairsOf]
  rw [e1]
  refine and_congr_right fun _ => and_congr_right fun _ => and_congr_right fun _ => ?_
  constructor
  · intro h e he
    have k : c e.1.2 + (if F e.1.2 then 0 else 1) ≤ c p - x.sum + e.1.1 * e.2 := h ((c e.1.2 + (if F e.1.2 then 0 else 1), e.1.1), e.2) ((zip_map_l _).mpr ⟨e, he, rfl⟩)
    unfold chg
    by_cases f : F e.1.2 = true
    · rw [if_pos f] at k
      exact .inr ⟨f, by omega⟩
    · rw [if_neg f] at k
      exact .inl (by omega)
  · intro h e he
    obtain ⟨d, hd, rfl⟩ := (zip_map_l _).mp he
    show c d.1.2 + (if F d.1.2 then 0 else 1) ≤ c p - x.sum + (d.1.1 : Int) * (d.2 : Int)
    have k := h d hd
    unfold chg at k
    by_cases f : F d.1.2 = true
    · rw [if_pos f]
      rcases k with k | ⟨_, k⟩ <;> omega
    · rw [if_neg f]
      rcases k with k | ⟨z, _⟩
      · omega
      · exact absurd z f

/-! ### reached -/
def bad (laid : Int) (q : Int × Nat) : Bool := decide (q.1 + laid > 0 ∧ q.2 = 0)
def term (laid : Int) (q : Int × Nat) : Int := if q.1 + laid > 0 then rup (q.1 + laid) q.2 else 0
def fewest (ds : Prs) (laid : Int) : Option Int := if ds.any (bad laid) = true then none else some ((ds.map (term laid)).sum)
def CanR (ds : Prs) (L : Int) : Prop := ∃ laid : Nat, (laid : Int) ≤ L ∧ ∃ x : List Nat, x.length = ds.length ∧ (x.sum : Int) ≤ laid ∧ ∀ e ∈ ds.zip x, e.1.1 + laid ≤ e.1.2 * e.2
theorem few_to : ∀ {ds : Prs} {laid : Int}, ds.any (bad laid) = false → ∃ x : List Nat, x.length = ds.length ∧ (x.sum : Int) = (ds.map (term laid)).sum ∧ ∀ e ∈ ds.zip x, e.1.1 + laid ≤ e.1.2 * e.2
  | [], _, _ => ⟨[], rfl, by simp, fun e he => by simp at he⟩
  | q :: ds, laid, h => by
    rw [List.any_cons, Bool.or_eq_false_iff] at h
    obtain ⟨x, x1, x2, x3⟩ := few_to h.2
    have hq : ¬ (q.1 + laid > 0 ∧ q.2 = 0) := of_decide_eq_false h.1
    have t0 : 0 ≤ term laid q := by
      unfold term
      by_cases g : q.1 + laid > 0
      · rw [if_pos g]
        have := rup_pos (t := q.1 + laid) (Nat.pos_of_ne_zero fun z => hq ⟨g, z⟩) g
        omega
      · rw [if_neg g]; exact Int.le_refl 0
    refine ⟨(term laid q).toNat :: x, by simp [x1], by rw [List.sum_cons, List.map_cons, List.sum_cons]; omega, fun e he => ?_⟩
    rw [List.zip_cons_cons] at he
    rcases List.mem_cons.mp he with rfl | he
    · show q.1 + laid ≤ (q.2 : Int) * ((term laid q).toNat : Int)
      have e1 : ((term laid q).toNat : Int) = term laid q := by omega
      rw [e1]
      by_cases g : q.1 + laid > 0
      · have e2 : term laid q = rup (q.1 + laid) q.2 := if_pos g
        rw [e2]
        exact rup_ge (Nat.pos_of_ne_zero fun z => hq ⟨g, z⟩)
      · have : 0 ≤ (q.2 : Int) * term laid q := Int.mul_nonneg (by omega) t0
        omega
    · exact x3 e he
theorem few_le : ∀ {ds : Prs} {laid : Int} {x : List Nat}, x.length = ds.length → (∀ e ∈ ds.zip x, e.1.1 + laid ≤ e.1.2 * e.2) → ds.any (bad laid) = false ∧ (ds.map (term laid)).sum ≤ x.sum
  | [], _, [], _, _ => ⟨rfl, by simp⟩
  | [], _, _ :: _, h, _ => by simp at h
  | q :: ds, _, [], h, _ => by simp at h
  | q :: ds, laid, v :: x, h, hz => by
    rw [List.zip_cons_cons] at hz
    obtain ⟨a, b⟩ := few_le (ds := ds) (laid := laid) (x := x) (by simpa using h) fun e he => hz e (List.mem_cons_of_mem _ he)
    have h0 : q.1 + laid ≤ (q.2 : Int) * (v : Int) := hz (q, v) (List.mem_cons_self)
    refine ⟨?_, ?_⟩
    · rw [List.any_cons, a, Bool.or_false]
      refine decide_eq_false fun z => ?_
      rw [z.2] at h0
      omega
    · rw [List.map_cons, List.sum_cons, List.sum_cons]
      have : term laid q ≤ v := by
        unfold term
        by_cases g : q.1 + laid > 0
        · rw [if_pos g]
          by_cases z : q.2 = 0
          · rw [z] at h0; omega
          · exact rup_le (Nat.pos_of_ne_zero z) h0
        · rw [if_neg g]; omega
      omega
theorem canR_few {ds : Prs} {L : Int} : CanR ds L ↔ ∃ laid : Nat, (laid : Int) ≤ L ∧ ∃ f, fewest ds laid = some f ∧ f ≤ laid := by
  refine exists_congr fun laid => and_congr_right fun _ => ?_
  constructor
  · rintro ⟨x, x1, x2, x3⟩
    obtain ⟨a, b⟩ := few_le x1 x3
    exact ⟨_, by unfold fewest; rw [if_neg (by rw [a]; decide)], by omega⟩
  · rintro ⟨f, h, hf⟩
    unfold fewest at h
    by_cases a : ds.any (bad laid) = true
    · rw [if_pos a] at h; cases h
    · rw [if_neg a] at h
      cases h
      obtain ⟨x, x1, x2, x3⟩ := few_to (Bool.eq_false_iff.mpr a)
      exact ⟨x, x1, by omega, x3⟩

/-! ### numbers at places -/
abbrev Nums := List (Option Int)
def Has (nums : Nums) (q : Nat) : Prop := ∃ z, nums[q]? = some (some z)
def num (nums : Nums) (q : Nat) : Int := (nums[q]?.join).getD 0
theorem num_of {nums : Nums} {q : Nat} {z : Int} (h : nums[q]? = some (some z)) : num nums q = z := by
  unfold num; rw [h]; rfl
def needs (nums : Nums) (aim : Int) (as : List (Nat × Nat)) : Prs := as.filterMap fun a => (nums[a.2]?.join).map fun v => (aim - v, a.1)
def Reach (tr : Tr) (L : Int) (nums : Nums) (p : Nat) (aim : Int) : Prop :=
  ∃ x : List Nat, x.length = (tr p).length ∧ (x.sum : Int) ≤ L ∧ ∀ e ∈ (tr p).zip x, Has nums e.1.2 → aim ≤ chg e x + num nums e.1.2
theorem join_has {nums : Nums} {q : Nat} {z : Int} : nums[q]?.join = some z ↔ nums[q]? = some (some z) := by
  constructor
  · intro h
    cases e : nums[q]? with
    | none => rw [e] at h; cases h
    | some o =>
      rw [e] at h
      have h : o = some z := h
      rw [h]
  · intro h; rw [h]; rfl
theorem needs_ext {nums : Nums} {aim laid : Int} : ∀ {as : List (Nat × Nat)} {x : List Nat}, x.length = (needs nums aim as).length → (∀ e ∈ (needs nums aim as).zip x, e.1.1 + laid ≤ e.1.2 * e.2) →
    ∃ y : List Nat, y.length = as.length ∧ y.sum = x.sum ∧ ∀ e ∈ as.zip y, Has nums e.1.2 → aim - num nums e.1.2 + laid ≤ e.1.1 * e.2
  | [], x, h, _ => by
    have : x = [] := List.eq_nil_of_length_eq_zero (by simpa [needs] using h)
    subst this
    exact ⟨[], rfl, rfl, fun e he => by simp at he⟩
  | a :: as, x, h, hz => by
    cases j : nums[a.2]?.join with
    | none =>
      have e1 : needs nums aim (a :: as) = needs nums aim as := by simp [needs, j]
      rw [e1] at h hz
      obtain ⟨y, y1, y2, y3⟩ := needs_ext h hz
      refine ⟨0 :: y, by simp [y1], by simp [y2], fun e he hh => ?_⟩
      rw [List.zip_cons_cons] at he
      rcases List.mem_cons.mp he with rfl | he
      · obtain ⟨z, hz'⟩ := hh
        rw [join_has.mpr hz'] at j
        cases j
      · exact y3 e he hh
    | some z =>
      have e1 : needs nums aim (a :: as) = (aim - z, a.1) :: needs nums aim as := by simp [needs, j]
      rw [e1] at h hz
      cases x with
      | nil => simp at h
      | cons v x =>
        rw [List.zip_cons_cons] at hz
        obtain ⟨y, y1, y2, y3⟩ := needs_ext (as := as) (by simpa using h) fun e he => hz e (List.mem_cons_of_mem _ he)
        refine ⟨v :: y, by simp [y1], by simp [y2], fun e he hh => ?_⟩
        rw [List.zip_cons_cons] at he
        rcases List.mem_cons.mp he with rfl | he
        · have := hz _ (List.mem_cons_self)
          show aim - num nums a.2 + laid ≤ (a.1 : Int) * (v : Int)
          rw [num_of (join_has.mp j)]
          exact this
        · exact y3 e he hh
theorem needs_res {nums : Nums} {aim laid : Int} : ∀ {as : List (Nat × Nat)} {y : List Nat}, y.length = as.length → (∀ e ∈ as.zip y, Has nums e.1.2 → aim - num nums e.1.2 + laid ≤ e.1.1 * e.2) →
    ∃ x : List Nat, x.length = (needs nums aim as).length ∧ x.sum ≤ y.sum ∧ ∀ e ∈ (needs nums aim as).zip x, e.1.1 + laid ≤ e.1.2 * e.2
  | [], y, h, _ => ⟨[], by simp [needs], by simp, fun e he => by simp at he⟩
  | a :: as, [], h, _ => by simp at h
  | a :: as, v :: y, h, hz => by
    rw [List.zip_cons_cons] at hz
    obtain ⟨x, x1, x2, x3⟩ := needs_res (as := as) (y := y) (by simpa using h) fun e he => hz e (List.mem_cons_of_mem _ he)
    cases j : nums[a.2]?.join with
    | none =>
      have e1 : needs nums aim (a :: as) = needs nums aim as := by simp [needs, j]
      exact ⟨x, by rw [e1]; exact x1, by simp; omega, by rw [e1]; exact x3⟩
    | some z =>
      have e1 : needs nums aim (a :: as) = (aim - z, a.1) :: needs nums aim as := by simp [needs, j]
      refine ⟨v :: x, by rw [e1]; simp [x1], by simp; omega, fun e he => ?_⟩
      rw [e1, List.zip_cons_cons] at he
      rcases List.mem_cons.mp he with rfl | he
      · have k := hz (a, v) (List.mem_cons_self) ⟨z, join_has.mp j⟩
        have k : aim - num nums a.2 + laid ≤ (a.1 : Int) * (v : Int) := k
        rw [num_of (join_has.mp j)] at k
        exact k
      · exact x3 e he
theorem canR_reach {tr : Tr} {L : Int} {nums : Nums} {p : Nat} {aim : Int} : CanR (needs nums aim (tr p)) L ↔ Reach tr L nums p aim := by
  constructor
  · rintro ⟨laid, hl, x, x1, x2, x3⟩
    obtain ⟨y, y1, y2, y3⟩ := needs_ext x1 x3
    refine ⟨y, y1, by omega, fun e he hh => ?_⟩
    have := y3 e he hh
    unfold chg
    omega
  · rintro ⟨y, y1, y2, y3⟩
    obtain ⟨x, x1, x2, x3⟩ := needs_res (nums := nums) (aim := aim) (laid := (y.sum : Nat)) y1 fun e he hh => by
      have := y3 e he hh
      unfold chg at this
      omega
    exact ⟨y.sum, y2, x, x1, by omega, x3⟩
theorem Reach.mono {tr : Tr} {L L' : Int} {nums : Nums} {p : Nat} {aim : Int} (h : Reach tr L nums p aim) (hL : L ≤ L') : Reach tr L' nums p aim := by
  obtain ⟨x, a, b, c⟩ := h
  exact ⟨x, a, by omega, c⟩
theorem held_of {tr : Tr} {L : Int} {nums : Nums} {p : Nat} (h : ¬ Reach tr L nums p (num nums p + 1)) : Held tr L (Has nums) (num nums) p := fun x hl hs => by
  apply Classical.byContradiction
  intro no
  refine h ⟨x, hl, hs, fun e he hh => ?_⟩
  apply Classical.byContradiction
  intro q
  exact no ⟨e, he, hh, by omega⟩
theorem not_reach {tr : Tr} {L : Int} {nums : Nums} {p : Nat} {s : Nat → Int} {A : Nat → Prop} (hA : ∀ q, A q → Has nums q) (h : Held tr L A s p) (le : ∀ q, A q → num nums q ≤ s q) {aim : Int} (r : Reach tr L nums p aim) : aim ≤ s p := by
  obtain ⟨x, hl, hs, k⟩ := r
  obtain ⟨e, he, ha, hc⟩ := h x hl hs
  have := k e he (hA _ ha)
  have := le _ ha
  omega
theorem reach_le {tr : Tr} {n : Nat} {L : Int} {nums : Nums} {p : Nat} (wf : Wf tr n) (hp : p < n) {a : Nat × Nat} (ha : a ∈ tr p) (hh : Has nums a.2) {aim : Int} (r : Reach tr L nums p aim) : aim ≤ 9 * L + num nums a.2 := by
  obtain ⟨x, hl, hs, k⟩ := r
  obtain ⟨e, he, ee⟩ := zip_at hl ha
  have := k e he (by rw [ee]; exact hh)
  have := chg_le wf hp hs he
  rw [ee] at *
  omega

/-! ### the least slope -/
structure Iter (tr : Tr) (L : Int) (n : Nat) (nums : Nums) : Prop where
  len : nums.length = n
  sup : ∀ q, Has nums q ↔ Sl tr L n q
  nn : ∀ q, Has nums q → 0 ≤ num nums q
  least : ∀ s, Slope tr L n (Sl tr L n) s → (∀ q, Sl tr L n q → 0 ≤ s q) → ∀ q, Sl tr L n q → num nums q ≤ s q
structure Least (tr : Tr) (L : Int) (n : Nat) (nums : Nums) : Prop extends Iter tr L n nums where
  slope : Slope tr L n (Has nums) (num nums)
theorem Least.unique {tr : Tr} {L : Int} {n : Nat} {a b : Nums} (ha : Least tr L n a) (hb : Least tr L n b) : a = b := by
  have eA : Has a = Sl tr L n := funext fun q => propext (ha.sup q)
  have eB : Has b = Sl tr L n := funext fun q => propext (hb.sup q)
  have sa := ha.slope
  have sb := hb.slope
  rw [eA] at sa
  rw [eB] at sb
  apply List.ext_getElem?
  intro q
  by_cases h : q < n
  · have h1 : q < a.length := by rw [ha.len]; exact h
    have h2 : q < b.length := by rw [hb.len]; exact h
    rw [List.getElem?_eq_getElem h1, List.getElem?_eq_getElem h2]
    by_cases hs : Sl tr L n q
    · obtain ⟨z, hz⟩ := (ha.sup q).mpr hs
      obtain ⟨y, hy⟩ := (hb.sup q).mpr hs
      have l1 := ha.least _ sb (fun r hr => hb.nn r ((hb.sup r).mpr hr)) q hs
      have l2 := hb.least _ sa (fun r hr => ha.nn r ((ha.sup r).mpr hr)) q hs
      rw [num_of hz, num_of hy] at l1 l2
      rw [List.getElem?_eq_getElem h1] at hz
      rw [List.getElem?_eq_getElem h2] at hy
      rw [hz, hy]
      have : z = y := by omega
      rw [this]
    · have f1 : ∀ z, a[q]? ≠ some (some z) := fun z e => hs ((ha.sup q).mp ⟨z, e⟩)
      have f2 : ∀ z, b[q]? ≠ some (some z) := fun z e => hs ((hb.sup q).mp ⟨z, e⟩)
      rw [List.getElem?_eq_getElem h1] at f1
      rw [List.getElem?_eq_getElem h2] at f2
      cases e1 : a[q] with
      | some z => exact absurd (by rw [e1]) (f1 z)
      | none =>
        cases e2 : b[q] with
        | some z => exact absurd (by rw [e2]) (f2 z)
        | none => rfl
  · rw [List.getElem?_eq_none (by rw [ha.len]; omega), List.getElem?_eq_none (by rw [hb.len]; omega)]
/-- one turn of the loop -/
structure Turn (tr : Tr) (L : Int) (a b : Nums) : Prop where
  len : b.length = a.length
  non : ∀ q : Nat, a[q]? = some none → b[q]? = some none
  som : ∀ (q : Nat) (z : Int), a[q]? = some (some z) → ∃ r, b[q]? = some (some r) ∧ z ≤ r ∧ (r = z ∨ Reach tr L a q r) ∧ (r = z → ¬ Reach tr L a q (z + 1))
theorem Turn.has {tr : Tr} {L : Int} {a b : Nums} (t : Turn tr L a b) (q : Nat) : Has b q ↔ Has a q := by
  constructor
  · rintro ⟨r, h⟩
    have hl : q < a.length := by rw [← t.len]; exact (List.getElem?_eq_some_iff.mp h).1
    cases e : a[q] with
    | some z => exact ⟨z, by rw [List.getElem?_eq_getElem hl, e]⟩
    | none =>
      have := t.non q (by rw [List.getElem?_eq_getElem hl, e])
      rw [this] at h; cases h
  · rintro ⟨z, h⟩
    obtain ⟨r, h1, _⟩ := t.som q z h
    exact ⟨r, h1⟩
theorem Iter.turn {tr : Tr} {L : Int} {n : Nat} {a b : Nums} (i : Iter tr L n a) (t : Turn tr L a b) : Iter tr L n b where
  len := t.len.trans i.len
  sup := fun q => (t.has q).trans (i.sup q)
  nn := fun q h => by
    obtain ⟨z, hz⟩ := (t.has q).mp h
    obtain ⟨r, h1, h2, _⟩ := t.som q z hz
    have := i.nn q ⟨z, hz⟩
    rw [num_of hz] at this
    rw [num_of h1]; omega
  least := fun s hs h0 q hq => by
    obtain ⟨z, hz⟩ := (i.sup q).mpr hq
    obtain ⟨r, h1, h2, h3, _⟩ := t.som q z hz
    have := i.least s hs h0 q hq
    rw [num_of hz] at this
    rw [num_of h1]
    rcases h3 with h3 | h3
    · omega
    · exact not_reach (fun q h => (i.sup q).mpr h) (hs.held q hq) (fun q h => i.least s hs h0 q h) h3
theorem Iter.stop {tr : Tr} {L : Int} {n : Nat} {a : Nums} (i : Iter tr L n a) (t : Turn tr L a a) : Least tr L n a where
  toIter := i
  slope := ⟨fun p h => by obtain ⟨z, hz⟩ := h; rw [← i.len]; exact (List.getElem?_eq_some_iff.mp hz).1, fun p h => by
    obtain ⟨z, hz⟩ := h
    obtain ⟨r, h1, _, _, h4⟩ := t.som p z hz
    rw [hz] at h1
    cases h1
    refine held_of ?_
    rw [num_of hz]
    exact h4 rfl⟩
/-- how far it is to a slope -/
def far (s : Nat → Int) (a : Nums) : Nat → Nat
  | 0 => 0
  | n + 1 => far s a n + (match a[n]? with | some (some z) => (s n - z).toNat | _ => 0)
theorem far_le {tr : Tr} {L : Int} {a b : Nums} (t : Turn tr L a b) (s : Nat → Int) : ∀ n, far s b n ≤ far s a n ∧ ((∀ q z, q < n → b[q]? = some (some z) → z ≤ s q) → far s b n = far s a n → ∀ q, q < n → b[q]? = a[q]?)
  | 0 => ⟨Nat.le_refl _, fun _ _ q h => by omega⟩
  | n + 1 => by
    obtain ⟨ih1, ih2⟩ := far_le t s n
    show far s b n + _ ≤ far s a n + _ ∧ (_ → far s b n + _ = far s a n + _ → _)
    cases e : a[n]? with
    | none =>
      have hb : b[n]? = none := by
        rw [List.getElem?_eq_none_iff] at e ⊢
        rw [t.len]; exact e
      rw [hb]
      refine ⟨by simpa using ih1, fun hs he q hq => ?_⟩
      by_cases c : q = n
      · rw [c, hb, e]
      · exact ih2 (fun q z hq => hs q z (by omega)) (by simpa using he) q (by omega)
    | some o =>
      cases o with
      | none =>
        have hb := t.non n e
        rw [hb]
        refine ⟨by simpa using ih1, fun hs he q hq => ?_⟩
        by_cases c : q = n
        · rw [c, hb, e]
        · exact ih2 (fun q z hq => hs q z (by omega)) (by simpa using he) q (by omega)
      | some z =>
        obtain ⟨r, hb, h1, _⟩ := t.som n z e
        rw [hb]
        refine ⟨by simp only; omega, fun hs he q hq => ?_⟩
        simp only at he
        have hr := hs n r (by omega) hb
        by_cases c : q = n
        · have e2 : r = z := by omega
          rw [c, hb, e, e2]
        · exact ih2 (fun q z hq => hs q z (by omega)) (by omega) q (by omega)
theorem Iter.far_lt {tr : Tr} {L : Int} {n : Nat} {a b : Nums} (i : Iter tr L n a) (t : Turn tr L a b) (ne : b ≠ a) {s : Nat → Int} (hs : Slope tr L n (Sl tr L n) s) (h0 : ∀ q, Sl tr L n q → 0 ≤ s q) : far s b n < far s a n := by
  obtain ⟨h1, h2⟩ := far_le t s n
  apply Classical.byContradiction
  intro q
  have ib := i.turn t
  have k := h2 (fun q z hq hz => by
    have := ib.least s hs h0 q ((ib.sup q).mp ⟨z, hz⟩)
    rw [num_of hz] at this
    exact this) (by omega)
  refine ne (List.ext_getElem? fun q => ?_)
  by_cases hq : q < n
  · exact k q hq
  · rw [List.getElem?_eq_none (by rw [ib.len]; omega), List.getElem?_eq_none (by rw [i.len]; omega)]
/-- the start: 0 at the places that have a slope -/
theorem iter_start {tr : Tr} {L : Int} {n : Nat} {a : Nums} (hl : a.length = n) (h : ∀ q, q < n → (Sl tr L n q → a[q]? = some (some 0)) ∧ (¬ Sl tr L n q → a[q]? = some none)) : Iter tr L n a := by
  have sup : ∀ q, Has a q ↔ Sl tr L n q := fun q => by
    constructor
    · rintro ⟨z, hz⟩
      have hq : q < n := by rw [← hl]; exact (List.getElem?_eq_some_iff.mp hz).1
      apply Classical.byContradiction
      intro no
      rw [(h q hq).2 no] at hz
      cases hz
    · intro s
      exact ⟨0, (h q s.lt).1 s⟩
  exact ⟨hl, sup, fun q hq => by rw [num_of ((h q ((sup q).mp hq).lt).1 ((sup q).mp hq))]; exact Int.le_refl 0, fun s _ h0 q hq => by rw [num_of ((h q hq.lt).1 hq)]; exact h0 q hq⟩

/-! ### the places that stay -/
def naStep (tr : Tr) (F : List Nat) : List Nat := F.filter fun p => (tr p).all fun a => decide (a.2 ∈ F)
theorem naStep_sub {tr : Tr} {F : List Nat} {p : Nat} (h : p ∈ naStep tr F) : p ∈ F := (List.mem_filter.mp h).1
theorem naStep_closed {tr : Tr} {F : List Nat} (h : Closed tr (· ∈ F)) : naStep tr F = F := by
  unfold naStep
  refine List.filter_eq_self.mpr fun p hp => List.all_eq_true.mpr fun a ha => decide_eq_true (h p hp a ha)
theorem naStep_len {tr : Tr} {F : List Nat} : Closed tr (· ∈ F) ∨ (naStep tr F).length < F.length := by
  by_cases h : Closed tr (· ∈ F)
  · exact .inl h
  · refine .inr ?_
    have le := List.length_filter_le (fun p => (tr p).all fun a => decide (a.2 ∈ F)) F
    have ne : (naStep tr F).length ≠ F.length := fun e => h fun p hp a ha => by
      have k := (List.length_filter_eq_length_iff.mp e) p hp
      exact of_decide_eq_true (List.all_eq_true.mp k a ha)
    unfold naStep at *
    omega
/-- as many turns as places are enough -/
theorem na_turn {tr : Tr} {F : List Nat} {m i : Nat} (h : Closed tr (· ∈ F) ∨ F.length + i ≤ m) : Closed tr (· ∈ naStep tr F) ∨ (naStep tr F).length + (i + 1) ≤ m := by
  rcases h with h | h
  · rw [naStep_closed h]; exact .inl h
  · rcases naStep_len (tr := tr) (F := F) with k | k
    · rw [naStep_closed k]; exact .inl k
    · exact .inr (by omega)
theorem na_end {tr : Tr} {F : List Nat} {m : Nat} (h : Closed tr (· ∈ F) ∨ F.length + m ≤ m) : Closed tr (· ∈ F) := by
  rcases h with h | h
  · exact h
  · have : F = [] := List.eq_nil_of_length_eq_zero (by omega)
    subst this
    exact fun p hp => by simp at hp

/-! ### gaining -/
structure Gain (tr : Tr) (L : Int) (ks : List Nat) (c : Nat → Int) (fs : List Nat) (t : Nat → Nat) : Prop where
  nd : fs.Nodup
  sub : ∀ p ∈ fs, p ∈ ks
  fix : ∀ p ∈ ks, p ∉ fs → ¬ EnG tr L c (· ∈ fs) p
  tab : ∀ p ∈ fs, EnG tr L c (fun q => q ∈ fs ∧ t q < t p) p
theorem EnG.mono {tr : Tr} {L : Int} {c : Nat → Int} {F G : Nat → Prop} {p : Nat} (h : EnG tr L c F p) (k : ∀ a ∈ tr p, F a.2 → G a.2) : EnG tr L c G p := by
  obtain ⟨x, h1, h2, h3, h4⟩ := h
  exact ⟨x, h1, h2, h3, fun e he => (h4 e he).imp id fun z => ⟨k e.1 (zip_r he).1 z.1, z.2⟩⟩
theorem Gain.all {tr : Tr} {L : Int} {n : Nat} {ks fs : List Nat} {c : Nat → Int} {t : Nat → Nat} (g : Gain tr L ks c fs t) (cl : Closed tr (· ∈ ks)) (h : ∀ p ∈ ks, p ∈ fs) {p : Nat} (hp : p ∈ ks) : ¬ Sl tr L n p :=
  table_no_slope (c := c) (t := t) cl (fun q hq => (g.tab q (h q hq)).mono fun _ _ z => z.2) hp
structure LInv (tr : Tr) (L : Int) (n n0 : Nat) (ks : List Nat) (c : Nat → Int) : Prop where
  nd : ks.Nodup
  low : ∀ p ∈ ks, p < n
  len : ks.length ≤ n0
  cl : Closed tr (· ∈ ks)
  bd : ∀ p ∈ ks, 0 ≤ c p ∧ c p ≤ L * n0
  caps : ∃ ct, Caps tr L (· ∈ ks) ct ∧ ∀ p ∈ ks, c p ≤ ct p
  sl : ∀ p, p < n → p ∉ ks → Sl tr L n p
theorem linv_start {tr : Tr} {L : Int} {n : Nat} {ks : List Nat} (hL : 0 ≤ L) (nd : ks.Nodup) (low : ∀ p ∈ ks, p < n) (cl : Closed tr (· ∈ ks)) (sl : ∀ p, p < n → p ∉ ks → Sl tr L n p) : LInv tr L n ks.length ks (fun _ => 0) :=
  ⟨nd, low, Nat.le_refl _, cl, fun _ _ => ⟨Int.le_refl 0, Int.mul_nonneg hL (by omega)⟩, ⟨_, caps_zero, fun _ _ => Int.le_refl 0⟩, sl⟩
/-- coins that are raised -/
def upBy (c : Nat → Int) (hs : List Nat) (k : Int) (p : Nat) : Int := c p + (if p ∈ hs then k else 0)
/-- behind a turn: the places that stay, closed, and all that are dropped have a slope -/
theorem LInv.next {tr : Tr} {L : Int} {n n0 : Nat} {ks hs fs1 ks' : List Nat} {c : Nat → Int} {t1 : Nat → Nat} {k : Int} (wf : Wf tr n) (hL : 0 ≤ L) (I : LInv tr L n n0 ks c) (hh : ∀ p ∈ hs, p ∈ ks) (k0 : 0 ≤ k) (g1 : Gain tr L ks (upBy c hs k) fs1 t1)
    (no : ∀ p ∈ hs, p ∉ fs1) (nd' : ks'.Nodup) (sub : ∀ p ∈ ks', p ∈ ks ∧ upBy c hs (k + 1) p ≤ L * n0) (len' : ks'.length ≤ ks.length) (cl' : Closed tr (· ∈ ks'))
    (drop : ∀ P : Nat → Prop, (∀ p, p < n → (p ∉ ks ∨ L * n0 < upBy c hs (k + 1) p) → P p) → (∀ p, p < n → ∀ a ∈ tr p, P a.2 → P p) → ∀ p, p < n → p ∉ ks' → P p) : LInv tr L n n0 ks' (upBy c hs (k + 1)) := by
  obtain ⟨ct, hc, le⟩ := I.caps
  obtain ⟨c2, h1, h2, h3⟩ := caps_step (S := (· ∈ ks)) (W := fun p => p ∈ ks ∧ p ∉ fs1) (c1 := upBy c hs k) hc I.cl (fun p hp w en => g1.fix p hp w.2 (en.mono fun a ha z => by
    apply Classical.byContradiction
    intro q
    exact z ⟨I.cl p hp a ha, q⟩)) (fun p hp nw => by
    have : p ∉ hs := fun z => nw ⟨hp, no p z⟩
    unfold upBy
    rw [if_neg this]
    have := le p hp
    omega)
  have le2 : ∀ p ∈ ks, upBy c hs (k + 1) p ≤ c2 p := fun p hp => by
    by_cases z : p ∈ hs
    · have := h3 p ⟨hp, no p z⟩
      unfold upBy at *
      rw [if_pos z] at *
      omega
    · have := le p hp
      have := h2 p
      unfold upBy
      rw [if_neg z]
      omega
  refine ⟨nd', fun p hp => I.low p (sub p hp).1, Nat.le_trans len' I.len, cl', fun p hp => ⟨?_, (sub p hp).2⟩, ⟨c2, fun p hp x hl hs' hx => h1 p (sub p hp).1 x hl hs' hx, fun p hp => le2 p (sub p hp).1⟩, drop _ (fun p hp z => ?_) fun p hp a ha z => z.back wf hp ha⟩
  · have := (I.bd p (sub p hp).1).1
    unfold upBy
    by_cases z : p ∈ hs
    · rw [if_pos z]; omega
    · rw [if_neg z]; omega
  · rcases z with z | z
    · exact I.sl p hp z
    · by_cases q : p ∈ ks
      · exact gap_slope hL h1 I.cl I.low ks (fun _ h => h) I.len q (Int.lt_of_lt_of_le z (le2 p q))
      · exact I.sl p hp q
/-- the loop's measure -/
def room (M : Int) (c : Nat → Int) (ks : List Nat) : Nat := (ks.map fun p => (M + 1 - c p).toNat).sum
theorem room_sub {M : Int} {c c' : Nat → Int} : ∀ {ks ks' : List Nat}, ks'.Nodup → (∀ p ∈ ks', p ∈ ks) → (∀ p ∈ ks', c p ≤ c' p) → room M c' ks' ≤ room M c ks
  | ks, [], _, _, _ => by simp [room]
  | ks, p :: r, nd, h, hc => by
    have hp := h p (List.mem_cons_self)
    have nd' := List.nodup_cons.mp nd
    have ih := room_sub (M := M) (c := c) (c' := c') (ks := ks.erase p) (ks' := r) nd'.2 (fun q hq => (List.mem_erase_of_ne (fun e => nd'.1 (by rw [← e]; exact hq))).mpr (h q (List.mem_cons_of_mem _ hq))) fun q hq => hc q (List.mem_cons_of_mem _ hq)
    have e1 : room M c ks = (M + 1 - c p).toNat + room M c (ks.erase p) := by
      unfold room
      have pm := List.perm_cons_erase hp
      rw [(pm.map (fun p => (M + 1 - c p).toNat)).sum_nat]
      simp
    have e2 : room M c' (p :: r) = (M + 1 - c' p).toNat + room M c' r := by simp [room]
    have := hc p (List.mem_cons_self)
    omega
theorem room_lt {M : Int} {c c' : Nat → Int} {ks ks' : List Nat} (nd : ks.Nodup) (nd' : ks'.Nodup) (h : ∀ p ∈ ks', p ∈ ks) (hc : ∀ p ∈ ks, c p ≤ c' p) {q : Nat} (hq : q ∈ ks) (lt : c q < c' q) (bd : c q ≤ M) : room M c' ks' < room M c ks := by
  have s1 := room_sub (M := M) (c := c') (c' := c') nd' h fun _ _ => Int.le_refl _
  have s2 := room_sub (M := M) (c := c) (c' := c') (ks := ks.erase q) (ks' := ks.erase q) (nd.erase q) (fun _ h => h) fun p hp => hc p (List.mem_of_mem_erase hp)
  have e : ∀ f : Nat → Int, room M f ks = (M + 1 - f q).toNat + room M f (ks.erase q) := fun f => by
    unfold room
    have pm := List.perm_cons_erase hq
    rw [(pm.map (fun p => (M + 1 - f p).toNat)).sum_nat]
    simp
  have e1 := e c
  have e2 := e c'
  omega
end K68
set_option maxRecDepth 100000
set_option maxHeartbeats 400000
/-! The walks' base: what the top gives, how a def keeps its promise, data in the heap, loops and comprehensions over data. -/
namespace K68
open PySem PySem.Spec PyProof.Rows L2

/-! ### what the top gives -/
structure Fx (K : PySem.W.Frag) (mg : Str → Option Value) : Prop where
  says : He.SaysD hfa hfn K
  gGlo : ∀ x, (He.Fa.glo x).ok K = true → mg x = some (.ref (He.ga K x))
  gFree : ∀ x, (He.Fa.free x).ok K = true → mg x = none
  gInt : ∀ x i, (He.Fa.int x i).ok K = true → ∃ t, mg x = some (.int i t)
  gStr : ∀ x z, (He.Fa.str x z).ok K = true → ∃ t, mg x = some (.str z t)
theorem Fx.of {K : PySem.W.Frag} {h : Heap} {mg : Str → Option Value} (X : K.In h) (G : h.Ns mainGlobals mg) (c : He.SaysD hfa hfn K) : Fx K mg :=
  ⟨c, fun _ => He.glo_ok X G, fun _ => He.free_ok X G, fun _ _ => He.int_ok X G, fun _ _ => He.str_ok X G⟩
section
variable {P : Program} {w : World} {K : PySem.W.Frag} {mg : Str → Option Value} {base : Heap}
/-- a def of the top by its place among the defs -/
theorem Fx.cal (F : Fx K mg) (i : Nat) {d : He.DefD} {j : Nat} {x : Str} {st : Stmt} {N ps : List Str} {k : Nat} {sp : Sp} (hd : hfn[i]? = some d) (hj : hfa[j]? = some (.glo x)) (e : d = ⟨(x, none), x, x, defArgs st, defBody st, defScope st, [], []⟩) (S : FnScope N ps (defScope st))
    (b : ∀ (kV doc pm : Value) (an : Option Addr) (cdv ct : Value) (us : List Value), us.length = ps.length → bindArgs (PySem.W.fnOf x x (defArgs st) (defBody st) (defScope st) .none kV doc pm an cdv ct) ⟨us, []⟩ = pure (ps.zip us))
    (len : ∀ vs H Q E, sp vs H Q E → vs.length = ps.length)
    (hbody : ∀ (f : Addr) (cdv : Value) (A : Around) (outer : List Env) (s : Shared) (H : Hp) (vs : List V) (Q : VK) (E : XK), Room k (A.deeper (envOfC x (defScope st) s.heap.objs.size f cdv)) → sp vs H Q E →
      ∃ t, PSs (cxOf CX0 P w K mg base N x (defScope st) f cdv A outer s H E).nox (defBody st) t ∧ t { nx := fun _ H' => Q .non H', rt := Q } (start N vs) H) : C8.Cal P w K mg base (k + 1) x sp [] := by
  subst e
  obtain ⟨fd, FD⟩ := F.says.def_ i hd
  have FF := He5.fun_of FD
  have bi := FF.binds (ps := ps) b
  have ok : FnOk P w K mg base CX0 (k + 1) (He.ga K x) fd ps sp := FF.ok S len fun cdv A outer s H vs Q E hr h => hbody _ cdv A outer s H vs Q E hr h
  exact ⟨He.ga K x, fd, ps, [], ok, F.gGlo x (F.says.fact j hj), FF.kp, bi, .nil⟩
end

/-! ### data: what stands, stands -/
theorem same_rd {H H' : Hp} (e : Same H H') {a : Addr} {u : HO} (h : Rd H a u) : Rd H' a u := h.imp (e a _) fun ⟨o, q⟩ => ⟨o, e a _ q⟩
theorem same_l {K : PySem.W.Frag} {H H' : Hp} (e : Same H H') {a : Addr} {xs : List V} (h : SqL K H a xs) : SqL K H' a xs := h.imp (same_rd e) id
theorem same_t {K : PySem.W.Frag} {H H' : Hp} (e : Same H H') {a : Addr} {xs : List V} (h : SqT K H a xs) : SqT K H' a xs := h.imp (same_rd e) id
mutual
theorem Dp.same {K : PySem.W.Frag} {H H' : Hp} (e : Same H H') : ∀ {d : PyData} {v : V}, Dp K H v d → Dp K H' v d
  | _, _, .non => .non
  | _, _, .bl b => .bl b
  | _, _, .int i => .int i
  | _, _, .str x => .str x
  | _, _, .lst h t => .lst (same_l e h) (DpAll.same e t)
  | _, _, .tup h t => .tup (same_t e h) (DpAll.same e t)
theorem DpAll.same {K : PySem.W.Frag} {H H' : Hp} (e : Same H H') : ∀ {ds : List PyData} {vs : List V}, DpAll K H vs ds → DpAll K H' vs ds
  | _, _, .nil => .nil
  | _, _, .cons h t => .cons (Dp.same e h) (DpAll.same e t)
end
theorem same_new {H : Hp} {p : Addr} {o : HO} (h : H p = none) : Same H (upd H p o) := fun b u e => (upd_ne (ne_of_none e h)).trans e
/-- an object that H does not know may change -/
theorem same_mut {H H' : Hp} {p : Addr} {o : HO} (e : Same H H') (h : H p = none) : Same H (upd H' p o) := fun b u hb => (upd_ne (ne_of_none hb h)).trans (e b u hb)
theorem none_back {H H' : Hp} {p : Addr} (e : Same H H') (h : H' p = none) : H p = none := e.free h
section
variable {K : PySem.W.Frag} {H : Hp} {v : V} {ds : List PyData}
theorem dp_list (h : Dp K H v (.list ds)) : ∃ a xs, v = .ref a ∧ SqL K H a xs ∧ DpAll K H xs ds := by
  cases h with | lst h t => exact ⟨_, _, rfl, h, t⟩
theorem dp_tup (h : Dp K H v (.tuple ds)) : ∃ a xs, v = .ref a ∧ SqT K H a xs ∧ DpAll K H xs ds := by
  cases h with | tup h t => exact ⟨_, _, rfl, h, t⟩
theorem dp_int {i : Int} (h : Dp K H v (.int i)) : v = .int i := by cases h; rfl
theorem dp_str {i : Str} (h : Dp K H v (.str i)) : v = .str i := by cases h; rfl
theorem dp_bool {i : Bool} (h : Dp K H v (.bool i)) : v = .bl i := by cases h; rfl
theorem dp_none (h : Dp K H v .none) : v = .non := by cases h; rfl
theorem dpAll_nil {xs : List V} (h : DpAll K H xs []) : xs = [] := by cases h; rfl
theorem dpAll_cons {xs : List V} {d : PyData} (h : DpAll K H xs (d :: ds)) : ∃ x r, xs = x :: r ∧ Dp K H x d ∧ DpAll K H r ds := by
  cases h with | cons h t => exact ⟨_, _, rfl, h, t⟩
theorem dpAll_get : ∀ {xs : List V} {ds : List PyData}, DpAll K H xs ds → ∀ {i : Nat} {d : PyData}, ds[i]? = some d → ∃ x, xs[i]? = some x ∧ Dp K H x d
  | _, _, .nil, i, d, e => by simp at e
  | _, _, .cons h t, 0, d, e => ⟨_, rfl, by have := Option.some.inj e; subst this; exact h⟩
  | _, _, .cons h t, i + 1, d, e => dpAll_get t (i := i) (by simpa using e)
theorem dpAll_snoc : ∀ {xs : List V} {ds : List PyData}, DpAll K H xs ds → ∀ {x : V} {d : PyData}, Dp K H x d → DpAll K H (xs ++ [x]) (ds ++ [d])
  | _, _, .nil, _, _, h => .cons h .nil
  | _, _, .cons h t, _, _, q => .cons h (dpAll_snoc t q)
theorem dpAll_ints : ∀ {ns : List Int}, DpAll K H (ns.map V.int) (ns.map .int)
  | [] => .nil
  | _ :: _ => .cons (.int _) dpAll_ints
theorem dpAll_ints_inv : ∀ {ns : List Int} {xs : List V}, DpAll K H xs (ns.map .int) → xs = ns.map V.int
  | [], _, h => dpAll_nil h
  | n :: ns, _, h => by
    obtain ⟨x, r, rfl, h1, h2⟩ := dpAll_cons h
    rw [dp_int h1, dpAll_ints_inv h2]
    rfl
theorem dpAll_append : ∀ {xs ys : List V} {ds es : List PyData}, DpAll K H xs ds → DpAll K H ys es → DpAll K H (xs ++ ys) (ds ++ es)
  | _, _, _, _, .nil, h => h
  | _, _, _, _, .cons h t, q => .cons h (dpAll_append t q)
end

/-! ### rules with the written part told -/
section
variable {X : Cx} {K : PySem.W.Frag}
theorem ixL (h : X.K = K) : IxR X (rIxL K) := h ▸ ix_list
theorem ixT (h : X.K = K) : IxR X (rIxT K) := h ▸ ix_tup
theorem slL (h : X.K = K) : SlR X (rSlL K) := h ▸ sl_list
theorem slT (h : X.K = K) : SlR X (rSlT K) := h ▸ sl_tup
theorem inS (h : X.K = K) : OpR X (compareOp .In) (rIn K false) := h ▸ op_in_seq
theorem niS (h : X.K = K) : OpR X (compareOp .NotIn) (rIn K true) := h ▸ op_notIn_seq
theorem neD (h : X.K = K) (hu : X.A.units + 64 < cLine) : OpR X (compareOp .NotEq) (rNeD K) := h ▸ op_neD hu
theorem ltD (h : X.K = K) (hu : X.A.units + 64 < cLine) : OpR X (compareOp .Lt) (rLtD K) := h ▸ op_ltD hu
theorem catA (h : X.K = K) : OpR X (binaryOp .Add) (rCatA K) := h ▸ op_catA
def rLenK (K : PySem.W.Frag) : List V → Hp → VK → Prop := fun xs H Q => ∃ p ys, xs = [.ref p] ∧ (SqL K H p ys ∨ SqT K H p ys) ∧ Q (.int ys.length) H
theorem lenS (h : X.K = K) : CallR X (.builtin "len") (rLenK K) := h ▸ call_len_seq
def rTupOf (K : PySem.W.Frag) : List V → Hp → VK → Prop := fun xs H Q => ∃ p ys, xs = [.ref p] ∧ ((SqL K H p ys ∧ ∀ l, H l = none → Q (.ref l) (upd H l (.tup ys))) ∨ (SqT K H p ys ∧ Q (.ref p) H))
theorem tupOf (h : X.K = K) : CallR X (.type "tuple") (rTupOf K) := h ▸ call_tuple_of
theorem sumL (h : X.K = K) (hc : X.calm = true) : CallR X (.builtin "sum") (rSum K) := h ▸ cr_sum hc
theorem allL (h : X.K = K) (hc : X.calm = true) : CallR X (.builtin "all") (rAll K) := h ▸ cr_all hc
theorem anyL (h : X.K = K) (hc : X.calm = true) : CallR X (.builtin "any") (rAny K) := h ▸ cr_any hc
theorem maxL (h : X.K = K) (hc : X.calm = true) : CallR X (.builtin "max") (rMax K) := h ▸ cr_max hc
theorem minP (h : X.K = K) (hc : X.calm = true) (hu : X.A.units + 64 < cLine) : CallR X (.builtin "min") (rMinP K) := h ▸ cr_minP hc hu
theorem srtS (h : X.K = K) : CallR X (.builtin "sorted") (rSortedS K) := h ▸ cr_sortedS
theorem srtId (h : X.K = K) (hu : X.A.units + 64 < cLine) : CallR X (.builtin "sorted") (rSortedId K) := h ▸ cr_sortedId hu
theorem isi (h : X.K = K) : CallR X (.builtin "isinstance") (rIsi K) := h ▸ call_isi
theorem fldK (h : X.K = K) {e : Expr} {f : Str} {pos : Pos} {ta : TE} (he : PE X e ta) (hb : attributeBase e f X.env (eval e X.env) = eval e X.env) : PE X (.Attribute e f pos) (tFld K ta f) := h ▸ pe_fld he hb
theorem tupK (h : X.K = K) {es : List Expr} {k : Nat} {t : TGs} {n : Nat} {pos : Pos} (hc : X.calm = true) (hp : PGs X es t) (hn : (assignEach es X.env).length = n := by rfl) (hst : (assignEach es X.env).findIdx? (·.1) = none := by rfl) : PG X (.Tuple es k pos) (gTup K n t) := h ▸ pg_tup hc hp hn hst
theorem piL (h : X.K = K) {tg l : Expr} {tl : TE} (hl : PE X l tl) : PI X tg l (iList K tl) := h ▸ pi_list hl
theorem piT (h : X.K = K) {tg l : Expr} {tl : TE} (hl : PE X l tl) : PI X tg l (iTup K tl) := h ▸ pi_tup hl
/-- sum of a tuple of ints -/
def rSumT (K : PySem.W.Frag) : List V → Hp → VK → Prop := fun xs H Q => ∃ (a : Addr) (ns : List Int), xs = [V.ref a] ∧ SqT K H a (ns.map V.int) ∧ Q (.int ns.sum) H
theorem sumT (h : X.K = K) (hc : X.calm = true) : CallR X (.builtin "sum") (rSumT K) := by
  subst h
  intro pins s σ H xs us Q I r hq
  obtain ⟨a, ns, rfl, ht, q⟩ := hq
  obtain rfl := Vals.ref1 r
  obtain ⟨its, rv, tp, _⟩ := I.tuple ht
  have hi := Vals.ints rv
  obtain ⟨xs, hx⟩ := hi.allInts.items
  have hn : numsOf its.toArray.toList = ns := by rw [show its.toArray.toList = its from rfl, hi.numsOf]
  have tp2 : s.heap.IsTuple a its.toArray := tp
  rw [hx] at tp2 hn
  rw [nums_intItems] at hn
  refine PySem.W.ktm_sumG (I.ok.hd hc) tp2 fun h' tk t' hk => ⟨.int _, H, I.kept hk, ⟨t', ?_⟩, q⟩
  rw [preSum_eq, List.take_of_length_le (by simp), hn]
end

/-! ### loops over data -/
section
variable {K : PySem.W.Frag} {α : Type} {enc : α → PyData} {l : List α} {v : V} {g : TG} {tb : TS} {D : Ends} {σ : L2.St} {H1 : Hp}
theorem enc_get {xs : List V} {H : Hp} (h : DpAll K H xs (l.map enc)) {i : Nat} {x : V} (hx : xs[i]? = some x) : ∃ a, l[i]? = some a ∧ Dp K H x (enc a) := by
  have li : i < l.length := by
    have e := dpAll_len h
    rw [List.length_map] at e
    rw [← e]
    exact (List.getElem?_eq_some_iff.mp hx).1
  obtain ⟨y, hy, d⟩ := dpAll_get h (i := i) (d := enc l[i]) (by rw [List.getElem?_map, List.getElem?_eq_getElem li]; rfl)
  rw [hx] at hy
  cases hy
  exact ⟨_, List.getElem?_eq_getElem li, d⟩
theorem enc_len {xs : List V} {H : Hp} (h : DpAll K H xs (l.map enc)) : xs.length = l.length := by
  have := dpAll_len h
  rw [List.length_map] at this
  exact this
/-- for over a list of data -/
theorem forL (hv : Dp K H1 v (.list (l.map enc))) (Pv : Nat → L2.St → Hp → Prop) (h0 : Pv 0 σ H1) (src : ∀ i σ H, Pv i σ H → Dp K H v (.list (l.map enc)))
    (hs : ∀ i a x σ H, l[i]? = some a → Dp K H x (enc a) → Pv i σ H → g x σ H fun σ2 H2 => tb { D with nx := Pv (i + 1), ct := Pv (i + 1), bk := D.nx } σ2 H2) (hd : ∀ σ H, Pv l.length σ H → D.nx σ H) :
    ∃ a, v = .ref a ∧ (∃ xs, SqL K H1 a xs) ∧ ∃ W : Nat → Nat → L2.St → Hp → Prop, (∃ m, W 0 m σ H1) ∧ ∀ i m σ H, W i m σ H →
      ((Itl K a).stop i H ∧ D.nx σ H) ∨ ((Itl K a).go i H ∧ ∃ N : L2.St → Hp → Prop, (∀ σ' H', N σ' H' → ∃ m', m' < m ∧ W (i + 1) m' σ' H') ∧ ∀ x H', (Itl K a).yld i H x H' → g x σ H' fun σ2 H2 => tb { D with nx := N, ct := N, bk := D.nx } σ2 H2) := by
  obtain ⟨a, xs, rfl, hl, _⟩ := dp_list hv
  refine ⟨a, rfl, ⟨xs, hl⟩, fun i m σ H => m = l.length - i ∧ i ≤ l.length ∧ Pv i σ H, ⟨_, rfl, Nat.zero_le _, h0⟩, ?_⟩
  rintro i m σ H ⟨rfl, hi, p⟩
  obtain ⟨a', ys, e, hl2, hd2⟩ := dp_list (src i σ H p)
  obtain rfl : a' = a := by cases e; rfl
  have len := enc_len hd2
  by_cases lt : i < l.length
  · have ly : i < ys.length := by omega
    refine .inr ⟨⟨ys, ys[i], hl2, List.getElem?_eq_getElem ly⟩, Pv (i + 1), fun σ' H' p' => ⟨l.length - (i + 1), by omega, rfl, lt, p'⟩, fun x H' y => ?_⟩
    obtain ⟨rfl, y2⟩ := y
    obtain ⟨b, hb, db⟩ := enc_get hd2 (y2 ys hl2)
    exact hs i b x σ _ hb db p
  · obtain rfl : i = l.length := by omega
    exact .inl ⟨⟨ys, hl2, by omega⟩, hd σ H p⟩
/-- for over a tuple of data -/
theorem forT (hv : Dp K H1 v (.tuple (l.map enc))) (Pv : Nat → L2.St → Hp → Prop) (h0 : Pv 0 σ H1) (src : ∀ i σ H, Pv i σ H → Dp K H v (.tuple (l.map enc)))
    (hs : ∀ i a x σ H, l[i]? = some a → Dp K H x (enc a) → Pv i σ H → g x σ H fun σ2 H2 => tb { D with nx := Pv (i + 1), ct := Pv (i + 1), bk := D.nx } σ2 H2) (hd : ∀ σ H, Pv l.length σ H → D.nx σ H) :
    ∃ a, v = .ref a ∧ (∃ xs, SqT K H1 a xs) ∧ ∃ W : Nat → Nat → L2.St → Hp → Prop, (∃ m, W 0 m σ H1) ∧ ∀ i m σ H, W i m σ H →
      ((Itt K a).stop i H ∧ D.nx σ H) ∨ ((Itt K a).go i H ∧ ∃ N : L2.St → Hp → Prop, (∀ σ' H', N σ' H' → ∃ m', m' < m ∧ W (i + 1) m' σ' H') ∧ ∀ x H', (Itt K a).yld i H x H' → g x σ H' fun σ2 H2 => tb { D with nx := N, ct := N, bk := D.nx } σ2 H2) := by
  obtain ⟨a, xs, rfl, hl, _⟩ := dp_tup hv
  refine ⟨a, rfl, ⟨xs, hl⟩, fun i m σ H => m = l.length - i ∧ i ≤ l.length ∧ Pv i σ H, ⟨_, rfl, Nat.zero_le _, h0⟩, ?_⟩
  rintro i m σ H ⟨rfl, hi, p⟩
  obtain ⟨a', ys, e, hl2, hd2⟩ := dp_tup (src i σ H p)
  obtain rfl : a' = a := by cases e; rfl
  have len := enc_len hd2
  by_cases lt : i < l.length
  · have ly : i < ys.length := by omega
    refine .inr ⟨⟨ys, ys[i], hl2, List.getElem?_eq_getElem ly⟩, Pv (i + 1), fun σ' H' p' => ⟨l.length - (i + 1), by omega, rfl, lt, p'⟩, fun x H' y => ?_⟩
    obtain ⟨rfl, y2⟩ := y
    obtain ⟨b, hb, db⟩ := enc_get hd2 (y2 ys hl2)
    exact hs i b x σ _ hb db p
  · obtain rfl : i = l.length := by omega
    exact .inl ⟨⟨ys, hl2, by omega⟩, hd σ H p⟩
end
/-! ### data without lists stands where a list changes -/
mutual
inductive NL : PyData → Prop
  | non : NL .none
  | bl (b : Bool) : NL (.bool b)
  | int (i : Int) : NL (.int i)
  | str (x : Str) : NL (.str x)
  | tup {ds : List PyData} : NLs ds → NL (.tuple ds)
inductive NLs : List PyData → Prop
  | nil : NLs []
  | cons {d : PyData} {ds : List PyData} : NL d → NLs ds → NLs (d :: ds)
end
def NoTup (H : Hp) (D : Addr) : Prop := ∀ xs, H D ≠ some (.tup xs) ∧ ∀ o, H D ≠ some (.frz o (.tup xs))
theorem noTup_lst {H : Hp} {D : Addr} {xs : List V} (h : H D = some (.lst xs)) : NoTup H D := fun ys => by
  rw [h]
  exact ⟨(fun e => nomatch e), (fun o e => nomatch e)⟩
theorem noTup_dK {H : Hp} {D : Addr} {xs : List (Key × V)} (h : H D = some (.dK xs)) : NoTup H D := fun ys => by
  rw [h]
  exact ⟨(fun e => nomatch e), (fun o e => nomatch e)⟩
theorem noTup_ins {H : Hp} {D C dx : Addr} {fs : List (Str × V)} (h : H D = some (.ins C dx fs)) : NoTup H D := fun ys => by
  rw [h]
  exact ⟨(fun e => nomatch e), (fun o e => nomatch e)⟩
theorem sqT_mut {K : PySem.W.Frag} {H : Hp} {D a : Addr} {o : HO} {xs : List V} (n : NoTup H D) (h : SqT K H a xs) : SqT K (upd H D o) a xs := by
  rcases h with (h | ⟨ob, h⟩) | h
  · refine .inl (.inl ((upd_ne fun e => ?_).trans h))
    rw [e] at h
    exact (n xs).1 h
  · refine .inl (.inr ⟨ob, (upd_ne fun e => ?_).trans h⟩)
    rw [e] at h
    exact (n xs).2 ob h
  · exact .inr h
mutual
theorem Dp.mut {K : PySem.W.Frag} {H : Hp} {D : Addr} {o : HO} (n : NoTup H D) : ∀ {d : PyData}, NL d → ∀ {v : V}, Dp K H v d → Dp K (upd H D o) v d
  | _, .non, _, .non => .non
  | _, .bl b, _, .bl _ => .bl b
  | _, .int i, _, .int _ => .int i
  | _, .str x, _, .str _ => .str x
  | _, .tup l, _, .tup h t => .tup (sqT_mut n h) (DpAll.mut n l t)
theorem DpAll.mut {K : PySem.W.Frag} {H : Hp} {D : Addr} {o : HO} (n : NoTup H D) : ∀ {ds : List PyData}, NLs ds → ∀ {vs : List V}, DpAll K H vs ds → DpAll K (upd H D o) vs ds
  | _, .nil, _, .nil => .nil
  | _, .cons h t, _, .cons a b => .cons (Dp.mut n h a) (DpAll.mut n t b)
end
theorem nls_of : ∀ {ds : List PyData}, (∀ d ∈ ds, NL d) → NLs ds
  | [], _ => .nil
  | d :: ds, h => .cons (h d (List.mem_cons_self)) (nls_of fun e he => h e (List.mem_cons_of_mem _ he))
/-! ### comprehensions that make data -/
section
variable {K : PySem.W.Frag} {g : TG} {tt : TT} {te : TE} {vs : List Nat} {σ : L2.St} {H1 : Hp} {D : Addr} {Qd : Hp → Prop} {J : It} {n : Nat} {G : Hp → Prop} {Y : Nat → Hp → V → Hp → Prop}
/-- what a turn does: at f i = some d it gives d, at f i = none nothing -/
def LcTurn (K : PySem.W.Frag) (g : TG) (tt : TT) (te : TE) (σ : L2.St) (vs : List Nat) (x : V) (H : Hp) (r : Option PyData) : Prop :=
  ∀ (Qy : V → Hp → Prop) (Qn : Hp → Prop), (∀ y H2 d, r = some d → Same H H2 → Dp K H2 y d → Qy y H2) → (r = none → ∀ H2, Same H H2 → Qn H2) →
    g x (wipe σ vs) H fun σ2 H2 => wipe σ2 vs = wipe σ vs ∧ tt σ2 H2 fun b H3 => if b = true then te σ2 H3 Qy else Qn H3
theorem lcW (wk : Walk J n G Y) (hD : H1 D = none) (f : Nat → Option PyData) (hn : n < sizeLine) (hG : ∀ H, Same H1 H → G H) (hY : ∀ i H x H', Y i H x H' → Same H H') (nl : ∀ i d, f i = some d → NL d)
    (turn : ∀ i x H H', i < n → Same H1 H → Y i H x H' → LcTurn K g tt te σ vs x H' (f i)) (k : ∀ H xs, Same H1 H → H D = some (.lst xs) → DpAll K H xs ((List.range n).filterMap f) → Qd H) :
    ∃ W : Nat → Nat → Hp → Prop, (∃ m, W 0 m (upd H1 D (.lst []))) ∧ ∀ i m H, W i m H →
      (J.stop i H ∧ Qd H) ∨ (J.go i H ∧ ∃ Nx : Hp → Prop, (∀ H', Nx H' → ∃ m', m' < m ∧ W (i + 1) m' H') ∧ ∀ x H', J.yld i H x H' → g x (wipe σ vs) H' fun σ2 H2 => wipe σ2 vs = wipe σ vs ∧ tt σ2 H2 fun b H3 =>
        if b = true then te σ2 H3 fun y H4 => ∃ acc, H4 D = some (.lst acc) ∧ acc.length < sizeLine ∧ Nx (upd H4 D (.lst (acc ++ [y]))) else Nx H3) := by
  refine lc_it wk (fun i H => Same H1 H ∧ ∃ xs, xs.length ≤ i ∧ H D = some (.lst xs) ∧ DpAll K H xs ((List.range i).filterMap f)) ⟨same_new hD, [], Nat.le_refl _, upd_same, .nil⟩ (fun i H _ p => hG H p.1) (fun i x H H' hi p y => ?_) fun H p => ?_
  · obtain ⟨sm, xs, lx, hx, dx⟩ := p
    have s2 := hY i H x H' y
    refine turn i x H H' hi sm y _ _ (fun z H4 d hf s4 dz => ⟨xs, s4 D _ (s2 D _ hx), by omega, same_mut (sm.trans (s2.trans s4)) hD, xs ++ [z], by rw [List.length_append]; exact Nat.succ_le_succ lx, upd_same, ?_⟩) fun hf H3 s3 => ⟨sm.trans (s2.trans s3), xs, Nat.le_succ_of_le lx, s3 D _ (s2 D _ hx), ?_⟩
    · have e : (List.range (i + 1)).filterMap f = (List.range i).filterMap f ++ [d] := by rw [List.range_succ, List.filterMap_append]; simp [hf]
      rw [e]
      have hd4 : H4 D = some (.lst xs) := s4 D _ (s2 D _ hx)
      have nls : NLs ((List.range i).filterMap f ++ [d]) := nls_of fun e' he => by
        rcases List.mem_append.mp he with q | q
        · obtain ⟨j, _, hj⟩ := List.mem_filterMap.mp q
          exact nl j e' hj
        · rw [List.mem_singleton.mp q]
          exact nl i d hf
      exact DpAll.mut (noTup_lst hd4) nls (dpAll_snoc (DpAll.same (s2.trans s4) dx) dz)
    · have e : (List.range (i + 1)).filterMap f = (List.range i).filterMap f := by rw [List.range_succ, List.filterMap_append]; simp [hf]
      rw [e]
      exact DpAll.same (s2.trans s3) dx
  · obtain ⟨sm, xs, _, hx, dx⟩ := p
    exact k H xs sm hx dx
end
end K68
set_option maxRecDepth 100000
set_option maxHeartbeats 400000
/-! the top's facts by name -/
namespace K68
open PySem PySem.Spec PyProof.Rows L2
section
variable {K : PySem.W.Frag} {mg : Str → Option Value}
theorem Fx.len (F : Fx K mg) : mg "len" = none := F.gFree _ (F.says.fact 56 (f := .free "len") rfl)
theorem Fx.isinstance (F : Fx K mg) : mg "isinstance" = none := F.gFree _ (F.says.fact 57 (f := .free "isinstance") rfl)
theorem Fx.int (F : Fx K mg) : mg "int" = none := F.gFree _ (F.says.fact 58 (f := .free "int") rfl)
theorem Fx.bool (F : Fx K mg) : mg "bool" = none := F.gFree _ (F.says.fact 59 (f := .free "bool") rfl)
theorem Fx.str (F : Fx K mg) : mg "str" = none := F.gFree _ (F.says.fact 60 (f := .free "str") rfl)
theorem Fx.tuple (F : Fx K mg) : mg "tuple" = none := F.gFree _ (F.says.fact 61 (f := .free "tuple") rfl)
theorem Fx.range (F : Fx K mg) : mg "range" = none := F.gFree _ (F.says.fact 62 (f := .free "range") rfl)
theorem Fx.sum (F : Fx K mg) : mg "sum" = none := F.gFree _ (F.says.fact 63 (f := .free "sum") rfl)
theorem Fx.any (F : Fx K mg) : mg "any" = none := F.gFree _ (F.says.fact 64 (f := .free "any") rfl)
theorem Fx.all (F : Fx K mg) : mg "all" = none := F.gFree _ (F.says.fact 65 (f := .free "all") rfl)
theorem Fx.min (F : Fx K mg) : mg "min" = none := F.gFree _ (F.says.fact 66 (f := .free "min") rfl)
theorem Fx.max (F : Fx K mg) : mg "max" = none := F.gFree _ (F.says.fact 67 (f := .free "max") rfl)
theorem Fx.sorted (F : Fx K mg) : mg "sorted" = none := F.gFree _ (F.says.fact 68 (f := .free "sorted") rfl)
theorem Fx.enumerate (F : Fx K mg) : mg "enumerate" = none := F.gFree _ (F.says.fact 69 (f := .free "enumerate") rfl)
theorem Fx.zip (F : Fx K mg) : mg "zip" = none := F.gFree _ (F.says.fact 70 (f := .free "zip") rfl)
theorem Fx.list (F : Fx K mg) : mg "list" = none := F.gFree _ (F.says.fact 71 (f := .free "list") rfl)
theorem Fx.abs (F : Fx K mg) : mg "abs" = none := F.gFree _ (F.says.fact 72 (f := .free "abs") rfl)
theorem Fx.g_MOST_PLACES (F : Fx K mg) : ∃ u, mg "MOST_PLACES" = some u ∧ RelV (.int 12) u := let ⟨t, h⟩ := F.gInt _ _ (F.says.fact 73 (f := .int "MOST_PLACES" 12) rfl); ⟨_, h, t, rfl⟩
theorem Fx.g_MOST_ARROWS (F : Fx K mg) : ∃ u, mg "MOST_ARROWS" = some u ∧ RelV (.int 60) u := let ⟨t, h⟩ := F.gInt _ _ (F.says.fact 74 (f := .int "MOST_ARROWS" 60) rfl); ⟨_, h, t, rfl⟩
theorem Fx.g_MOST_PAY (F : Fx K mg) : ∃ u, mg "MOST_PAY" = some u ∧ RelV (.int 9) u := let ⟨t, h⟩ := F.gInt _ _ (F.says.fact 75 (f := .int "MOST_PAY" 9) rfl); ⟨_, h, t, rfl⟩
theorem Fx.g_WHOLE (F : Fx K mg) : ∃ u, mg "WHOLE" = some u ∧ RelV (.int 2520) u := let ⟨t, h⟩ := F.gInt _ _ (F.says.fact 76 (f := .int "WHOLE" 2520) rfl); ⟨_, h, t, rfl⟩
theorem Fx.g_MOST_LIMIT (F : Fx K mg) : ∃ u, mg "MOST_LIMIT" = some u ∧ RelV (.int 100) u := let ⟨t, h⟩ := F.gInt _ _ (F.says.fact 77 (f := .int "MOST_LIMIT" 100) rfl); ⟨_, h, t, rfl⟩
theorem Fx.g_LETTERS (F : Fx K mg) : ∃ u, mg "LETTERS" = some u ∧ RelV (.str "abcdefghijklmnopqrstuvwxyz") u := let ⟨t, h⟩ := F.gStr _ _ (F.says.fact 78 (f := .str "LETTERS" "abcdefghijklmnopqrstuvwxyz") rfl); ⟨_, h, t, rfl⟩
/-- the class Track stands here -/
abbrev TrC (K : PySem.W.Frag) : Addr := He.ga K "Track"
theorem Fx.cls (F : Fx K mg) : Cls K (TrC K) := He.cls_ok (F.says.fact 79 (f := .cls "Track") rfl)
theorem Fx.mkr (F : Fx K mg) : Mk K (TrC K) (He.ma K (TrC K) "__init__") := He.mkr_ok (F.says.fact 80 (f := .mkr "Track") rfl)
theorem Fx.meth (F : Fx K mg) : Meth K (TrC K) "keep" (He.ma K (TrC K) "keep") := He.meth_ok (F.says.fact 81 (f := .meth "Track" "keep") rfl)
theorem Fx.track (F : Fx K mg) : mg "Track" = some (.ref (TrC K)) := F.gGlo _ (F.says.fact 55 (f := .glo "Track") rfl)
theorem Fx.no_places (F : Fx K mg) : NoAttr K (TrC K) "places" := He.noat_ok (F.says.fact 82 (f := .noat "Track" "places") rfl)
theorem Fx.no_arrows (F : Fx K mg) : NoAttr K (TrC K) "arrows" := He.noat_ok (F.says.fact 83 (f := .noat "Track" "arrows") rfl)
theorem Fx.no_kept_arrows (F : Fx K mg) : NoAttr K (TrC K) "kept_arrows" := He.noat_ok (F.says.fact 84 (f := .noat "Track" "kept_arrows") rfl)
end
end K68
set_option maxRecDepth 100000
set_option maxHeartbeats 400000
namespace K68
open PySem PySem.Spec PyProof.Rows L2
section
variable {P : Program} {w : World} {K : PySem.W.Frag} {mg : Str → Option Value} {base : Heap}
/-! ### checks -/
def spIsInteger : Sp := fun vs H Q _ => (∃ i, vs = [.int i] ∧ Q (.bl true) H) ∨ (∃ b, vs = [.bl b] ∧ Q (.bl false) H) ∨ (vs = [.non] ∧ Q (.bl false) H)
theorem sc_is_integer : FnScope ["thing"] ["thing"] (defScope s_is_integer) := ⟨rfl, rfl, rfl, by decide +kernel, rfl, by decide +kernel, by decide +kernel⟩
theorem c_is_integer (F : Fx K mg) : C8.Cal P w K mg base 1 "is_integer" spIsInteger [] := by
  refine (F.cal (d := d_is_integer) (k := 0) 0 (j := 0) rfl rfl rfl sc_is_integer (fun _ _ _ _ _ _ us hl => match us, hl with | [_], _ => rfl) (fun vs H Q E h => ?_) (fun f cdv A outer s H vs Q E hr h => ?_))
  · rcases h with ⟨i, rfl, _⟩ | ⟨i, rfl, _⟩ | ⟨rfl, _⟩ <;> rfl
  · refine ⟨_, (pss_one (ps_ret (pe_and (pe_callB (isi (K := K) rfl) (by rfl) F.isinstance (by decide +kernel) (pa_cons (pv 0) (pa_cons (pe_bltn (v := .ty "int") (u := .type "int") (by rfl) F.int (by decide +kernel) rfl) pa_nil))) (pe_one (pe_not (pe_callB (isi (K := K) rfl) (by rfl) F.isinstance (by decide +kernel) (pa_cons (pv 0) (pa_cons (pe_bltn (v := .ty "bool") (u := .type "bool") (by rfl) F.bool (by decide +kernel) rfl) pa_nil)))))))), ?_⟩
    rcases h with ⟨i, rfl, q⟩ | ⟨i, rfl, q⟩ | ⟨rfl, q⟩
    · refine ⟨_, rfl, ⟨_, _, _, _, true, rfl, .ty _, .base (.int i), kit_ty (by decide +kernel), true, rfl, iteT ?_⟩⟩
      refine ⟨_, rfl, ⟨_, _, _, _, false, rfl, .ty _, .base (.int i), kit_ty (by decide +kernel), false, rfl, q⟩⟩
    · refine ⟨_, rfl, ⟨_, _, _, _, true, rfl, .ty _, .base (.bl i), kit_ty (by decide +kernel), true, rfl, iteT ?_⟩⟩
      refine ⟨_, rfl, ⟨_, _, _, _, true, rfl, .ty _, .base (.bl i), kit_ty (by decide +kernel), true, rfl, q⟩⟩
    · refine ⟨_, rfl, ⟨_, _, _, _, false, rfl, .ty _, .base .non, kit_ty (by decide +kernel), false, rfl, iteF q⟩⟩
def spIsWithin : Sp := fun vs H Q _ => ∃ i a b : Int, vs = [.int i, .int a, .int b] ∧ Q (.bl (decide (a ≤ i) && decide (i ≤ b))) H
theorem sc_is_within : FnScope ["thing", "least", "most"] ["thing", "least", "most"] (defScope s_is_within) := ⟨rfl, rfl, rfl, by decide +kernel, rfl, by decide +kernel, by decide +kernel⟩
theorem c_is_within (F : Fx K mg) : C8.Cal P w K mg base 2 "is_within" spIsWithin [] := by
  refine (F.cal (d := d_is_within) (k := 1) 1 (j := 1) rfl rfl rfl sc_is_within (fun _ _ _ _ _ _ us hl => match us, hl with | [_, _, _], _ => rfl) (fun vs H Q E h => ?_) (fun f cdv A outer s H vs Q E hr h => ?_))
  · obtain ⟨i, a, b, rfl, _⟩ := h; rfl
  · refine ⟨_, (pss_one (ps_ret (pe_and (C8.pe_c (c_is_integer F) hr (by decide) (by rfl) (pa_cons (pv 0) pa_nil)) (pe_one (pe_chain op_le op_le (pv 1) (pv 0) (pv 2)))))), ?_⟩
    obtain ⟨i, a, b, rfl, q⟩ := h
    refine ⟨_, rfl, .inl ⟨i, rfl, true, rfl, iteT ?_⟩⟩
    refine ⟨_, rfl, _, rfl, _, _, rfl, rfl, decide (a ≤ i), rfl, ite2 (fun c => ?_) fun c => ?_⟩
    · refine ⟨_, rfl, _, _, rfl, rfl, ?_⟩
      rw [c] at q
      exact q
    · rw [Bool.eq_false_iff.mpr c] at q
      exact q
end
end K68
set_option maxRecDepth 100000
set_option maxHeartbeats 400000
namespace K68
open PySem PySem.Spec PyProof.Rows L2
/-! ### tracks in the heap -/
abbrev Arw := Str × Nat × Nat
abbrev Trk := List (List Arw)
def stepD (a : Arw) : PyData := .tuple [.str a.1, .int a.2.1, .int a.2.2]
def stepsD (l : List Arw) : PyData := .list (l.map stepD)
def TrAt (K : PySem.W.Frag) (H : Hp) (v : V) (T : Trk) : Prop :=
  ∃ (a dx : Addr) (fs : List (Str × V)) (kv : V), v = .ref a ∧ H a = some (.ins (TrC K) dx fs) ∧ fs.lookup ("places" : Str) = some (V.int T.length) ∧ fs.lookup ("kept_arrows" : Str) = some kv ∧ Dp K H kv (.list (T.map stepsD))
theorem TrAt.same {K : PySem.W.Frag} {H H' : Hp} {v : V} {T : Trk} (e : Same H H') (h : TrAt K H v T) : TrAt K H' v T := by
  obtain ⟨a, dx, fs, kv, h1, h2, h3, h4, h5⟩ := h
  exact ⟨a, dx, fs, kv, h1, e _ _ h2, h3, h4, Dp.same e h5⟩
/-- what a track is at every place: pays and goals -/
def trOf (T : Trk) : Tr := fun p => (T.getD p []).map (·.2)
structure TrOk (T : Trk) : Prop where
  pos : 1 ≤ T.length
  few : T.length ≤ 12
  ne : ∀ l ∈ T, l ≠ []
  len : ∀ l ∈ T, l.length ≤ 4
  pay : ∀ l ∈ T, ∀ a ∈ l, a.2.1 ≤ 9
  goal : ∀ l ∈ T, ∀ a ∈ l, a.2.2 < T.length
theorem trOf_at {T : Trk} {p : Nat} {l : List Arw} (h : T[p]? = some l) : trOf T p = l.map (·.2) := by
  unfold trOf
  rw [List.getD_eq_getElem?_getD, h]
  rfl
theorem TrOk.wf {T : Trk} (h : TrOk T) : Wf (trOf T) T.length := by
  have at_ : ∀ p, p < T.length → ∃ l ∈ T, trOf T p = l.map (·.2) := fun p hp => ⟨T[p], List.getElem_mem hp, trOf_at (List.getElem?_eq_getElem hp)⟩
  refine ⟨fun p hp a ha => ?_, fun p hp a ha => ?_, fun p hp => ?_⟩
  · obtain ⟨l, hl, e⟩ := at_ p hp
    rw [e] at ha
    obtain ⟨b, hb, rfl⟩ := List.mem_map.mp ha
    exact h.goal l hl b hb
  · obtain ⟨l, hl, e⟩ := at_ p hp
    rw [e] at ha
    obtain ⟨b, hb, rfl⟩ := List.mem_map.mp ha
    exact h.pay l hl b hb
  · obtain ⟨l, hl, e⟩ := at_ p hp
    rw [e]
    exact fun z => h.ne l hl (List.map_eq_nil_iff.mp z)
section
variable {P : Program} {w : World} {K : PySem.W.Frag} {mg : Str → Option Value} {base : Heap}
def spRoundedUp : Sp := fun vs H Q _ => ∃ (t : Int) (b : Nat), vs = [.int t, .int (b : Int)] ∧ 0 < b ∧ b ≤ 1000 ∧ Q (.int (rup t b)) H
theorem sc_rounded_up : FnScope ["top", "bottom"] ["top", "bottom"] (defScope s_rounded_up) := ⟨rfl, rfl, rfl, by decide +kernel, rfl, by decide +kernel, by decide +kernel⟩
theorem c_rounded_up (F : Fx K mg) : C8.Cal P w K mg base 1 "rounded_up" spRoundedUp [] := by
  refine (F.cal (d := d_rounded_up) (k := 0) 4 (j := 4) rfl rfl rfl sc_rounded_up (fun _ _ _ _ _ _ us hl => match us, hl with | [_, _], _ => rfl) (fun vs H Q E h => ?_) (fun f cdv A outer s H vs Q E hr h => ?_))
  · obtain ⟨i, b, rfl, _⟩ := h; rfl
  · refine ⟨_, (pss_one (ps_ret (pe_un un_neg (pe_op op_fdivN (pe_un un_neg (pv 0)) (pv 1))))), ?_⟩
    obtain ⟨t, b, rfl, h0, h1, q⟩ := h
    refine ⟨_, rfl, _, rfl, _, rfl, _, _, rfl, rfl, ⟨by omega, by omega⟩, _, rfl, ?_⟩
    rw [Int.fdiv_eq_ediv_of_nonneg _ (by omega)]
    exact q
def spStepsOf (K : PySem.W.Frag) : Sp := fun vs H Q _ => ∃ (v : V) (T : Trk) (p : Nat) (l : List Arw) (H0 : Hp), vs = [v, .int (p : Int)] ∧ Same H0 H ∧ TrAt K H0 v T ∧ T[p]? = some l ∧ ∀ x, Dp K H0 x (stepsD l) → Q x H
theorem sc_steps_of : FnScope ["track", "place"] ["track", "place"] (defScope s_steps_of) := ⟨rfl, rfl, rfl, by decide +kernel, rfl, by decide +kernel, by decide +kernel⟩
theorem c_steps_of (F : Fx K mg) : C8.Cal P w K mg base 1 "steps_of" (spStepsOf K) [] := by
  refine (F.cal (d := d_steps_of) (k := 0) 11 (j := 9) rfl rfl rfl sc_steps_of (fun _ _ _ _ _ _ us hl => match us, hl with | [_, _], _ => rfl) (fun vs H Q E h => ?_) (fun f cdv A outer s H vs Q E hr h => ?_))
  · obtain ⟨v, T, p, l, H0, rfl, _⟩ := h; rfl
  · refine ⟨_, (pss_one (ps_ret (pe_ix (ixL (K := K) rfl) (fldK (K := K) rfl (pv 0) rfl) (pv 1) (fun _ _ => rfl)))), ?_⟩
    obtain ⟨v, T, p, l, H0, rfl, sm, ⟨a, dx, fs, kv, rfl, h2, h3, h4, h5⟩, hp, q⟩ := h
    obtain ⟨b, xs, rfl, hb, hd⟩ := dp_list h5
    obtain ⟨x, hx, dx'⟩ := dpAll_get hd (i := p) (d := stepsD l) (by rw [List.getElem?_map, hp]; rfl)
    exact ⟨_, rfl, a, _, dx, fs, _, rfl, sm _ _ h2, F.cls, F.no_kept_arrows, h4, _, rfl, b, xs, _, x, rfl, rfl, same_l sm hb, atI_nat hx, q x dx'⟩
def spIsPlace (K : PySem.W.Frag) : Sp := fun vs H Q _ => ∃ (v : V) (T : Trk) (i : Int), vs = [v, .int i] ∧ TrAt K H v T ∧ Q (.bl (decide (0 ≤ i) && decide (i ≤ (T.length : Int) - 1))) H
theorem sc_is_place : FnScope ["track", "thing"] ["track", "thing"] (defScope s_is_place) := ⟨rfl, rfl, rfl, by decide +kernel, rfl, by decide +kernel, by decide +kernel⟩
theorem c_is_place (F : Fx K mg) : C8.Cal P w K mg base 3 "is_place" (spIsPlace K) [] := by
  refine (F.cal (d := d_is_place) (k := 2) 9 (j := 7) rfl rfl rfl sc_is_place (fun _ _ _ _ _ _ us hl => match us, hl with | [_, _], _ => rfl) (fun vs H Q E h => ?_) (fun f cdv A outer s H vs Q E hr h => ?_))
  · obtain ⟨v, T, p, rfl, _⟩ := h; rfl
  · refine ⟨_, (pss_one (ps_ret (C8.pe_c (c_is_within F) hr (by decide) (by rfl) (pa_cons (pv 1) (pa_cons pe_int (pa_cons (pe_op op_sub (fldK (K := K) rfl (pv 0) rfl) pe_int) pa_nil)))))), ?_⟩
    obtain ⟨v, T, p, rfl, ⟨a, dx, fs, kv, rfl, h2, h3, h4, h5⟩, q⟩ := h
    exact ⟨_, rfl, _, rfl, a, _, dx, fs, _, rfl, h2, F.cls, F.no_places, h3, _, _, rfl, rfl, _, _, _, rfl, q⟩
def spCheckPlace (K : PySem.W.Frag) : Sp := fun vs H Q _ => ∃ (v : V) (T : Trk) (p : Nat), vs = [v, .int (p : Int)] ∧ TrAt K H v T ∧ p < T.length ∧ Q .non H
theorem sc_check_place : FnScope ["track", "thing"] ["track", "thing"] (defScope s_check_place) := ⟨rfl, rfl, rfl, by decide +kernel, rfl, by decide +kernel, by decide +kernel⟩
theorem c_check_place (F : Fx K mg) : C8.Cal P w K mg base 4 "check_place" (spCheckPlace K) [] := by
  refine (F.cal (d := d_check_place) (k := 3) 10 (j := 8) rfl rfl rfl sc_check_place (fun _ _ _ _ _ _ us hl => match us, hl with | [_, _], _ => rfl) (fun vs H Q E h => ?_) (fun f cdv A outer s H vs Q E hr h => ?_))
  · obtain ⟨v, T, p, rfl, _⟩ := h; rfl
  · refine ⟨_, (pss_one (ps_if (pt_not (pt_val (C8.pe_c (c_is_place F) hr (by decide) (by rfl) (pa_cons (pv 0) (pa_cons (pv 1) pa_nil))))) pss_never pss_nil)), ?_⟩
    obtain ⟨v, T, p, rfl, ht, hp, q⟩ := h
    refine ⟨_, rfl, _, rfl, v, T, p, rfl, ht, _, rfl, ?_⟩
    rw [decide_eq_true (by omega : (0 : Int) ≤ p), decide_eq_true (by omega : (p : Int) ≤ T.length - 1)]
    exact iteF q
def spCheckLimit : Sp := fun vs H Q _ => ∃ i : Int, vs = [.int i] ∧ 0 ≤ i ∧ i ≤ 100 ∧ Q .non H
theorem sc_check_limit : FnScope ["thing"] ["thing"] (defScope s_check_limit) := ⟨rfl, rfl, rfl, by decide +kernel, rfl, by decide +kernel, by decide +kernel⟩
theorem c_check_limit (F : Fx K mg) : C8.Cal P w K mg base 3 "check_limit" spCheckLimit [] := by
  refine (F.cal (d := d_check_limit) (k := 2) 27 (j := 25) rfl rfl rfl sc_check_limit (fun _ _ _ _ _ _ us hl => match us, hl with | [_], _ => rfl) (fun vs H Q E h => ?_) (fun f cdv A outer s H vs Q E hr h => ?_))
  · obtain ⟨i, rfl, _⟩ := h; rfl
  · refine ⟨_, (pss_one (ps_if (pt_not (pt_val (C8.pe_c (c_is_within F) hr (by decide) (by rfl) (pa_cons (pv 0) (pa_cons pe_int (pa_cons (C8.pe_gc (by rfl) F.g_MOST_LIMIT) pa_nil)))))) pss_never pss_nil)), ?_⟩
    obtain ⟨i, rfl, h0, h1, q⟩ := h
    refine ⟨_, rfl, i, 0, 100, rfl, _, rfl, ?_⟩
    rw [decide_eq_true h0, decide_eq_true h1]
    exact iteF q
def spWeight : Sp := fun vs H Q _ => ∃ p : Nat, vs = [.int (p : Int)] ∧ p ≤ 9 ∧ Q (.int (wt p : Nat)) H
theorem sc_weight : FnScope ["pay"] ["pay"] (defScope s_weight) := ⟨rfl, rfl, rfl, by decide +kernel, rfl, by decide +kernel, by decide +kernel⟩
theorem c_weight (F : Fx K mg) : C8.Cal P w K mg base 1 "weight" spWeight [] := by
  refine (F.cal (d := d_weight) (k := 0) 13 (j := 11) rfl rfl rfl sc_weight (fun _ _ _ _ _ _ us hl => match us, hl with | [_], _ => rfl) (fun vs H Q E h => ?_) (fun f cdv A outer s H vs Q E hr h => ?_))
  · obtain ⟨i, rfl, _⟩ := h; rfl
  · refine ⟨_, (pss_one (ps_ret (pe_ifExp (pt_cmpR op_gt (pv 0) pe_int (nomark _)) (pe_op op_fdivN (C8.pe_gc (by rfl) F.g_WHOLE) (pv 0)) (C8.pe_gc (by rfl) F.g_WHOLE)))), ?_⟩
    obtain ⟨p, rfl, h9, q⟩ := h
    refine ⟨_, rfl, _, _, rfl, rfl, _, rfl, ite2 (fun c => ?_) fun c => ?_⟩
    · have hp : 0 < p := by have := of_decide_eq_true c; omega
      refine ⟨_, rfl, _, _, rfl, rfl, ⟨by omega, by omega⟩, ?_⟩
      show Q (.int (Int.fdiv 2520 (p : Int))) H
      rw [Int.fdiv_eq_ediv_of_nonneg _ (by omega)]
      unfold wt at q
      rw [if_pos hp] at q
      exact q
    · have hp : ¬ 0 < p := fun z => c (decide_eq_true (by omega))
      unfold wt at q
      rw [if_neg hp] at q
      exact q
end
end K68
set_option maxRecDepth 100000
set_option maxHeartbeats 400000
namespace K68
open PySem PySem.Spec PyProof.Rows L2
/-! ### comprehensions over data -/
theorem range_bind {α β : Type} (h : α → Option β) : ∀ l : List α, (List.range l.length).filterMap (fun i => l[i]?.bind h) = l.filterMap h := by
  intro l
  have gen : ∀ n, n ≤ l.length → (List.range n).filterMap (fun i => l[i]?.bind h) = (l.take n).filterMap h := by
    intro n
    induction n with
    | zero => intro _; rfl
    | succ n ih =>
      intro hn
      have lt : n < l.length := by omega
      rw [List.range_succ, List.filterMap_append, ih (by omega), List.take_succ, List.filterMap_append]
      congr 1
      cases e : h l[n] <;> simp [List.getElem?_eq_getElem lt, e]
  rw [gen l.length (Nat.le_refl _), List.take_length]
section
variable {K : PySem.W.Frag} {α : Type} {enc : α → PyData} {l : List α} {v : V} {g : TG} {tt : TT} {te : TE} {vs : List Nat} {σ : L2.St} {H1 : Hp} {Q : Addr → Hp → Prop}
/-- what the list at D must give -/
abbrev LcK (K : PySem.W.Frag) (H1 : Hp) (ds : List PyData) (Q : Addr → Hp → Prop) : Prop := ∀ (D : Addr) (H : Hp) (xs : List V), H1 D = none → Same H1 H → H D = some (.lst xs) → DpAll K H xs ds → Q D H
abbrev LcR (J : It) (g : TG) (tt : TT) (te : TE) (σ : L2.St) (vs : List Nat) (H1 : Hp) (Q : Addr → Hp → Prop) : Prop := ∀ D, H1 D = none → ∃ W : Nat → Nat → Hp → Prop, (∃ m, W 0 m (upd H1 D (.lst []))) ∧ ∀ i m H, W i m H →
      (J.stop i H ∧ Q D H) ∨ (J.go i H ∧ ∃ Nx : Hp → Prop, (∀ H', Nx H' → ∃ m', m' < m ∧ W (i + 1) m' H') ∧ ∀ x H', J.yld i H x H' → g x (wipe σ vs) H' fun σ2 H2 => wipe σ2 vs = wipe σ vs ∧ tt σ2 H2 fun b H3 =>
        if b = true then te σ2 H3 fun y H4 => ∃ acc, H4 D = some (.lst acc) ∧ acc.length < sizeLine ∧ Nx (upd H4 D (.lst (acc ++ [y]))) else Nx H3)
theorem lcL (hv : Dp K H1 v (.list (l.map enc))) (h : α → Option PyData) (hz : l.length ≤ 1000) (nl : ∀ a d, h a = some d → NL d) (turn : ∀ a x H, a ∈ l → Same H1 H → Dp K H x (enc a) → LcTurn K g tt te σ vs x H (h a)) (k : LcK K H1 (l.filterMap h) Q) :
    ∃ a, v = .ref a ∧ (∃ xs, SqL K H1 a xs) ∧ LcR (Itl K a) g tt te σ vs H1 Q := by
  obtain ⟨a, xs, rfl, hl, hd⟩ := dp_list hv
  have len := enc_len hd
  refine ⟨a, rfl, ⟨xs, hl⟩, fun D hD => lcW (K := K) (walk_list (K := K) (a := a) (xs := xs)) hD (fun i => l[i]?.bind h) (by rw [len]; exact small1000 hz) (fun H s => same_l s hl) (fun i H x H' y => by rw [y.1]; exact Same.refl _) (fun i d e => ?_) (fun i x H H' hi sm y => ?_) fun H ys sm hx dx => k D H ys hD sm hx ?_⟩
  · cases e2 : l[i]? with
    | none => rw [e2] at e; cases e
    | some b => rw [e2] at e; exact nl b d e
  · obtain ⟨rfl, hx⟩ := y
    obtain ⟨b, hb, db⟩ := enc_get hd hx
    show LcTurn K g tt te σ vs x _ (l[i]?.bind h)
    rw [hb]
    exact turn b x _ (List.mem_of_getElem? hb) sm (Dp.same sm db)
  · rw [len, range_bind] at dx
    exact dx
theorem lcT (hv : Dp K H1 v (.tuple (l.map enc))) (h : α → Option PyData) (hz : l.length ≤ 1000) (nl : ∀ a d, h a = some d → NL d) (turn : ∀ a x H, a ∈ l → Same H1 H → Dp K H x (enc a) → LcTurn K g tt te σ vs x H (h a)) (k : LcK K H1 (l.filterMap h) Q) :
    ∃ a, v = .ref a ∧ (∃ xs, SqT K H1 a xs) ∧ LcR (Itt K a) g tt te σ vs H1 Q := by
  obtain ⟨a, xs, rfl, hl, hd⟩ := dp_tup hv
  have len := enc_len hd
  refine ⟨a, rfl, ⟨xs, hl⟩, fun D hD => lcW (K := K) (walk_tup (K := K) (a := a) (xs := xs)) hD (fun i => l[i]?.bind h) (by rw [len]; exact small1000 hz) (fun H s => same_t s hl) (fun i H x H' y => by rw [y.1]; exact Same.refl _) (fun i d e => ?_) (fun i x H H' hi sm y => ?_) fun H ys sm hx dx => k D H ys hD sm hx ?_⟩
  · cases e2 : l[i]? with
    | none => rw [e2] at e; cases e
    | some b => rw [e2] at e; exact nl b d e
  · obtain ⟨rfl, hx⟩ := y
    obtain ⟨b, hb, db⟩ := enc_get hd hx
    show LcTurn K g tt te σ vs x _ (l[i]?.bind h)
    rw [hb]
    exact turn b x _ (List.mem_of_getElem? hb) sm (Dp.same sm db)
  · rw [len, range_bind] at dx
    exact dx
theorem lcRg {lo : Int} {n : Nat} (h : Nat → Option PyData) (hz : n ≤ 1000) (nl : ∀ a d, h a = some d → NL d) (turn : ∀ i H, i < n → Same H1 H → LcTurn K g tt te σ vs (.int (lo + (i : Nat))) H (h i)) (k : LcK K H1 ((List.range n).filterMap h) Q) :
    LcR (Itr lo n) g tt te σ vs H1 Q :=
  fun D hD => lcW (K := K) walk_range hD h (small1000 hz) (fun _ _ => True.intro) (fun i H x H' y => by rw [y.1]; exact Same.refl _) nl (fun i x H H' hi sm y => by
    obtain ⟨rfl, rfl⟩ := y
    exact turn i _ hi sm) fun H ys sm hx dx => k D H ys hD sm hx dx
/-- a turn without a test: a name -/
theorem lct_name {j : Nat} {x : V} {H : Hp} {d : PyData} (hw : wipe ((wipe σ vs).set j (some x)) vs = wipe σ vs) (he : ∀ Qy : VK, (∀ y H2, Same H H2 → Dp K H2 y d → Qy y H2) → te ((wipe σ vs).set j (some x)) H Qy) : LcTurn K (gName j) tYes te σ vs x H (some d) :=
  fun Qy Qn qy _ => ⟨hw, iteT (B := Qn H) (he Qy fun y H2 s dy => qy y H2 d rfl s dy)⟩
end
/-- pairs of an int and a pay -/
def prD (q : Int × Nat) : PyData := .tuple [.int q.1, .int (q.2 : Int)]
section
variable {K : PySem.W.Frag} {H : Hp} {x : V}
theorem step_tup {s : Arw} (h : Dp K H x (stepD s)) : ∃ t, x = .ref t ∧ SqT K H t [.str s.1, .int s.2.1, .int s.2.2] := by
  obtain ⟨t, ys, rfl, ht, hy⟩ := dp_tup h
  obtain ⟨a, r, rfl, h1, hy⟩ := dpAll_cons hy
  obtain ⟨b, r, rfl, h2, hy⟩ := dpAll_cons hy
  obtain ⟨c, r, rfl, h3, hy⟩ := dpAll_cons hy
  obtain rfl := dpAll_nil hy
  rw [dp_str h1, dp_int h2, dp_int h3] at ht
  exact ⟨t, rfl, ht⟩
theorem pr_tup {q : Int × Nat} (h : Dp K H x (prD q)) : ∃ t, x = .ref t ∧ SqT K H t [.int q.1, .int (q.2 : Int)] := by
  obtain ⟨t, ys, rfl, ht, hy⟩ := dp_tup h
  obtain ⟨a, r, rfl, h1, hy⟩ := dpAll_cons hy
  obtain ⟨b, r, rfl, h2, hy⟩ := dpAll_cons hy
  obtain rfl := dpAll_nil hy
  rw [dp_int h1, dp_int h2] at ht
  exact ⟨t, rfl, ht⟩
theorem nl_pr (q : Int × Nat) : NL (prD q) := .tup (.cons (.int _) (.cons (.int _) .nil))
theorem nl_step (s : Arw) : NL (stepD s) := .tup (.cons (.str _) (.cons (.int _) (.cons (.int _) .nil)))
def natV (k : Nat) : V := .int (k : Int)
theorem in_ints {ns : List Nat} {i : Nat} : inV (.int (i : Int)) (ns.map natV) = decide (i ∈ ns) := by
  unfold inV
  rw [List.any_map]
  by_cases h : i ∈ ns
  · rw [decide_eq_true h, List.any_eq_true]
    exact ⟨i, h, by simp [eqV, natV]⟩
  · rw [decide_eq_false h, List.any_eq_false]
    intro k hk
    have : k ≠ i := fun z => h (z ▸ hk)
    simp only [Function.comp, eqV, natV, beq_iff_eq]
    omega
theorem flat_ints {ns : List Nat} : (ns.map natV).all flatV = true := by
  rw [List.all_map, List.all_eq_true]
  intro k _
  rfl
end
section
variable {P : Program} {w : World} {K : PySem.W.Frag} {mg : Str → Option Value} {base : Heap}
theorem wsum {ks : List Nat} : ∀ l : List Arw, (l.filterMap fun s => if s.2.2 ∈ ks then some ((wt s.2.1 : Nat) : Int) else none).sum = ((wtBack (fun g => decide (g ∈ ks)) (l.map (·.2)) : Nat) : Int)
  | [] => rfl
  | s :: l => by
    have ih := wsum (ks := ks) l
    by_cases c : s.2.2 ∈ ks
    · simp [wtBack, c] at ih ⊢
      omega
    · simp [wtBack, c] at ih ⊢
      omega
def spWeightBack (K : PySem.W.Frag) : Sp := fun vs H Q _ => ∃ (v : V) (T : Trk) (p : Nat) (l : List Arw) (a : Addr) (ks : List Nat), vs = [v, .int (p : Int), .ref a] ∧ TrAt K H v T ∧ T[p]? = some l ∧ l.length ≤ 1000 ∧ (∀ s ∈ l, s.2.1 ≤ 9) ∧ SqL K H a (ks.map natV) ∧
  ∀ H', Same H H' → Q (.int (wtBack (fun g => decide (g ∈ ks)) (l.map (·.2)) : Nat)) H'
theorem sc_weight_back : FnScope ["track", "place", "lot", "letter", "pay", "goal"] ["track", "place", "lot"] (defScope s_weight_back) := ⟨rfl, rfl, rfl, by decide +kernel, rfl, by decide +kernel, by decide +kernel⟩
theorem c_weight_back (F : Fx K mg) : C8.Cal P w K mg base 2 "weight_back" (spWeightBack K) [] := by
  refine (F.cal (d := d_weight_back) (k := 1) 14 (j := 12) rfl rfl rfl sc_weight_back (fun _ _ _ _ _ _ us hl => match us, hl with | [_, _, _], _ => rfl) (fun vs H Q E h => ?_) (fun f cdv A outer s H vs Q E hr h => ?_))
  · obtain ⟨v, T, p, l, a, ks, rfl, _⟩ := h; rfl
  · refine ⟨_, (pss_one (ps_ret (pe_callB (sumL (K := K) rfl rfl) (by rfl) F.sum (by decide +kernel) (pa_cons (pe_lc (own := [("letter", 3), ("pay", 4), ("goal", 5)]) (g := gTup K 3 (gCons (gName 3) (gCons (gName 4) (gCons (gName 5) (gNil))))) rfl sc_weight_back.nd (piL (K := K) rfl (C8.pe_c (c_steps_of F) hr (by decide) (by rfl) (pa_cons (pv 0) (pa_cons (pv 1) pa_nil)))) (blkOk_by (own := [("letter", 3), ("pay", 4), ("goal", 5)]) (N := ["track", "place", "lot", "letter", "pay", "goal"]) (sc := defScope s_weight_back) (by decide +kernel)) (fun _ _ _ _ _ => (tupK (K := K) (n := 3) rfl rfl (pgs_cons (pg_name (i := 3) sc_weight_back.nd rfl (Or.inl rfl)) (pgs_cons (pg_name (i := 4) sc_weight_back.nd rfl (Or.inl rfl)) (pgs_cons (pg_name (i := 5) sc_weight_back.nd rfl (Or.inl rfl)) pgs_nil))))) (fun _ _ _ _ _ => (pts_one (pt_cmpR (inS (K := K) rfl) (pv 5) (pv 2) rfl))) (fun _ _ _ _ _ => (C8.pe_c (c_weight F) hr (by decide) (by rfl) (pa_cons (pv 4) pa_nil)))) pa_nil)))), ?_⟩
    obtain ⟨v, T, p, l, a, ks, rfl, ht, hp, hz, h9, hks, q⟩ := h
    refine ⟨_, rfl, _, rfl, v, T, p, l, H, rfl, Same.refl _, ht, hp, fun x dx => ?_⟩
    refine lcL (K := K) dx (fun s => if s.2.2 ∈ ks then some (.int (wt s.2.1 : Nat)) else none) hz (fun s d e => ?_) (fun s x H2 hs sm dx => ?_) fun D H2 xs hD sm hx dd => ?_
    · by_cases c : s.2.2 ∈ ks
      · rw [if_pos c] at e; cases e; exact .int _
      · rw [if_neg c] at e; cases e
    · obtain ⟨t, rfl, ht⟩ := step_tup dx
      refine fun Qy Qn qy qn => ⟨t, _, rfl, ht, rfl, _, _, rfl, _, _, rfl, _, _, rfl, rfl, rfl, ?_⟩
      refine ⟨_, rfl, _, rfl, a, _, rfl, .inl (same_l sm hks), rfl, flat_ints, _, rfl, ?_⟩
      show if inV (.int ((s.2.2 : Nat) : Int)) _ = true then _ else _
      rw [in_ints]
      refine ite2 (fun c => ?_) fun c => ?_
      · refine ⟨_, rfl, s.2.1, rfl, h9 s hs, ?_⟩
        exact qy _ _ _ (if_pos (of_decide_eq_true c)) (Same.refl _) (.int _)
      · exact qn (if_neg fun z => c (decide_eq_true z)) _ (Same.refl _)
    · have e : l.filterMap (fun s => if s.2.2 ∈ ks then some (PyData.int (wt s.2.1 : Nat)) else none) = (l.filterMap fun s => if s.2.2 ∈ ks then some ((wt s.2.1 : Nat) : Int) else none).map .int := by
        rw [List.map_filterMap]
        congr 1
        funext s
        by_cases c : s.2.2 ∈ ks
        · rw [if_pos c, if_pos c]; rfl
        · rw [if_neg c, if_neg c]; rfl
      rw [e] at dd
      have ex := dpAll_ints_inv dd
      rw [ex] at hx
      refine ⟨D, _, rfl, SqL.of hx, ?_⟩
      rw [wsum]
      exact q H2 sm
end
end K68
set_option maxRecDepth 100000
set_option maxHeartbeats 400000
namespace K68
open PySem PySem.Spec PyProof.Rows L2
/-! ### lists of places, dicts by place -/
def natD (k : Nat) : PyData := .int (k : Int)
section
variable {K : PySem.W.Frag} {H H' : Hp} {a : Addr}
theorem natD_ints (ks : List Nat) : ks.map natD = (ks.map fun k : Nat => (k : Int)).map PyData.int := by rw [List.map_map]; rfl
theorem natV_ints (ks : List Nat) : ks.map natV = (ks.map fun k : Nat => (k : Int)).map V.int := by rw [List.map_map]; rfl
theorem dp_nats {ks : List Nat} (h : SqL K H a (ks.map natV)) : Dp K H (.ref a) (.list (ks.map natD)) := by
  refine .lst h ?_
  rw [natD_ints, natV_ints]
  exact dpAll_ints
theorem dp_natsT {ks : List Nat} (h : SqT K H a (ks.map natV)) : Dp K H (.ref a) (.tuple (ks.map natD)) := by
  refine .tup h ?_
  rw [natD_ints, natV_ints]
  exact dpAll_ints
theorem nats_of {ks : List Nat} {xs : List V} (h : DpAll K H xs (ks.map natD)) : xs = ks.map natV := by
  rw [natD_ints] at h
  rw [natV_ints]
  exact dpAll_ints_inv h
theorem nl_nat (k : Nat) : NL (natD k) := .int _
end
/-- the dict of the places ks with the values f -/
def dkv (ks : List Nat) (f : Nat → V) : List (Key × V) := ks.map fun p : Nat => (Sum.inl (p : Int), f p)
theorem dkv_len (ks : List Nat) (f : Nat → V) : (dkv ks f).length = ks.length := List.length_map _
theorem dkv_val {f : Nat → V} {p : Nat} : ∀ {ks : List Nat}, valV (dkv ks f) (Sum.inl (p : Int)) = if p ∈ ks then some (f p) else none
  | [] => rfl
  | q :: ks => by
    show valV ((Sum.inl (q : Int), f q) :: dkv ks f) _ = _
    by_cases e : q = p
    · rw [valV_pos (by rw [e]), if_pos (by rw [e]; exact List.mem_cons_self), e]
    · rw [valV_neg (fun z => e (by have := Sum.inl.inj z; omega)), dkv_val (ks := ks)]
      by_cases c : p ∈ ks
      · rw [if_pos c, if_pos (List.mem_cons_of_mem _ c)]
      · rw [if_neg c, if_neg (fun z => (List.mem_cons.mp z).elim (fun z => e z.symm) c)]
theorem dkv_ext {ks : List Nat} {f g : Nat → V} (h : ∀ p ∈ ks, f p = g p) : dkv ks f = dkv ks g := List.map_congr_left fun p hp => by rw [h p hp]
theorem dkv_put {ks : List Nat} {f : Nat → V} {p : Nat} {v : V} (h : p ∉ ks) : putK (dkv ks f) (Sum.inl (p : Int)) v = dkv (ks ++ [p]) (fun q => if q = p then v else f q) := by
  rw [putK_new v (by rw [dkv_val, if_neg h])]
  unfold dkv
  rw [List.map_append]
  congr 1
  · exact List.map_congr_left fun q hq => by
      show _ = (_, if q = p then v else f q)
      rw [if_neg (fun z => h (by rw [← z]; exact hq))]
  · show _ = [(_, if p = p then v else f p)]
    rw [if_pos rfl]
theorem dkv_put2 {ks : List Nat} {f : Nat → V} {p : Nat} {v : V} (h : p ∈ ks) : putK (dkv ks f) (Sum.inl (p : Int)) v = dkv ks (fun q => if q = p then v else f q) := by
  unfold putK
  rw [if_pos]
  · unfold dkv
    rw [List.map_map]
    refine List.map_congr_left fun q hq => ?_
    by_cases e : q = p
    · simp [e]
    · have : ¬ (q : Int) = (p : Int) := by omega
      simp [e, this]
  · rw [valV_any, dkv_val, if_pos h]; rfl
theorem dkv_at {ks : List Nat} {f : Nat → V} {i : Nat} {k : Key} {v : V} (h : (dkv ks f)[i]? = some (k, v)) : ∃ p, ks[i]? = some p ∧ k = Sum.inl (p : Int) ∧ v = f p := by
  unfold dkv at h
  rw [List.getElem?_map] at h
  cases e : ks[i]? with
  | none => rw [e] at h; cases h
  | some p => rw [e] at h; cases h; exact ⟨p, rfl, rfl, rfl⟩
section
variable {H H' : Hp} {a : Addr} {ks : List Nat} {f : Nat → V} {p : Nat}
theorem dk_get (h : Rd H a (.dK (dkv ks f))) : DGet H a (.int (p : Int)) (if p ∈ ks then some (f p) else none) := .inl ⟨_, Sum.inl (p : Int), h, rfl, dkv_val.symm⟩
theorem dk_has (h : Rd H a (.dK (dkv ks f))) (hp : p ∈ ks) : DGet H a (.int (p : Int)) (some (f p)) := by
  have := dk_get (p := p) h
  rw [if_pos hp] at this
  exact this
theorem isSome_ite {α : Type} {c : Prop} [Decidable c] {x : α} : (if c then some x else none).isSome = decide c := by
  by_cases h : c
  · rw [if_pos h, decide_eq_true h]; rfl
  · rw [if_neg h, decide_eq_false h]; rfl
theorem dk_put (h : H a = some (.dK (dkv ks f))) (hp : p ∉ ks) (hl : ks.length ≤ 1000) (v : V) : DPut H a (.int (p : Int)) v (upd H a (.dK (dkv (ks ++ [p]) fun q => if q = p then v else f q))) := by
  have := DPut.k (k := Sum.inl (p : Int)) (v := v) h (by rw [dkv_len]; exact small1000 hl)
  rw [dkv_put hp] at this
  exact this
end
/-! ### a dict that is locked -/
section
variable {K : PySem.W.Frag} {H H' : Hp} {d : Addr} {kvs : List (Key × V)} {o : HO}
theorem unlock_same {u : HO} {od : Obj} (h : H d = some u) (s : Same (upd H d (.frz od u)) H') : Same H (upd H' d u) := fun b w hb => by
  by_cases e : b = d
  · rw [e, upd_same, ← h, ← e, hb]
  · rw [upd_ne e]
    exact s b w ((upd_ne e).trans hb)
theorem sqL_dk (hd : H d = some (.dK kvs)) {a : Addr} {xs : List V} (h : SqL K H a xs) : SqL K (upd H d o) a xs := by
  refine h.imp (fun h => ?_) id
  rcases h with h | ⟨ob, h⟩
  · exact .inl ((upd_ne fun e => by rw [e, hd] at h; cases h).trans h)
  · exact .inr ⟨ob, (upd_ne fun e => by rw [e, hd] at h; cases h).trans h⟩
theorem sqT_dk (hd : H d = some (.dK kvs)) {a : Addr} {xs : List V} (h : SqT K H a xs) : SqT K (upd H d o) a xs := sqT_mut (noTup_dK hd) h
mutual
theorem Dp.dk (hd : H d = some (.dK kvs)) : ∀ {x : PyData} {v : V}, Dp K H v x → Dp K (upd H d o) v x
  | _, _, .non => .non
  | _, _, .bl b => .bl b
  | _, _, .int i => .int i
  | _, _, .str x => .str x
  | _, _, .lst h t => .lst (sqL_dk hd h) (DpAll.dk hd t)
  | _, _, .tup h t => .tup (sqT_dk hd h) (DpAll.dk hd t)
theorem DpAll.dk (hd : H d = some (.dK kvs)) : ∀ {ds : List PyData} {vs : List V}, DpAll K H vs ds → DpAll K (upd H d o) vs ds
  | _, _, .nil => .nil
  | _, _, .cons h t => .cons (Dp.dk hd h) (DpAll.dk hd t)
end
theorem TrAt.dk {v : V} {T : Trk} (hd : H d = some (.dK kvs)) (h : TrAt K H v T) : TrAt K (upd H d o) v T := by
  obtain ⟨a, dx, fs, kv, h1, h2, h3, h4, h5⟩ := h
  exact ⟨a, dx, fs, kv, h1, (upd_ne fun e => by rw [e, hd] at h2; cases h2).trans h2, h3, h4, Dp.dk hd h5⟩
theorem rd_lock {ob : Obj} {b : Addr} {u w : HO} (hd : H d = some w) (hw : ∀ o x, w ≠ .frz o x) (h : Rd H b u) : Rd (upd H d (.frz ob w)) b u := by
  by_cases e : b = d
  · rcases h with h | ⟨o', h⟩
    · rw [e, hd] at h
      cases h
      rw [e]
      exact .inr ⟨ob, upd_same⟩
    · rw [e, hd] at h
      exact absurd (Option.some.inj h) (hw _ _)
  · rcases h with h | ⟨o', h⟩
    · exact .inl ((upd_ne e).trans h)
    · exact .inr ⟨o', (upd_ne e).trans h⟩
end
section
variable {K : PySem.W.Frag} {v : V} {g : TG} {tt : TT} {te : TE} {vs : List Nat} {σ : L2.St} {H1 : Hp} {Q : Addr → Hp → Prop} {ks : List Nat} {f : Nat → V} {d : Addr} {o : Obj}
theorem lcKeys (hd : H1 d = some (.frz o (.dK (dkv ks f)))) (h : Nat → Option PyData) (hz : ks.length ≤ 1000) (nl : ∀ a d, h a = some d → NL d) (turn : ∀ p H, p ∈ ks → Same H1 H → LcTurn K g tt te σ vs (.int ((p : Nat) : Int)) H (h p)) (k : LcK K H1 (ks.filterMap h) Q) :
    LcR (Itk d o (dkv ks f)) g tt te σ vs H1 Q := by
  intro D hD
  refine lcW (K := K) (walk_keys (d := d) (o := o) (kvs := dkv ks f)) hD (fun i => ks[i]?.bind h) (by rw [dkv_len]; exact small1000 hz) (fun H s => s d _ hd) (fun i H x H' y => by rw [y.1]; exact Same.refl _) (fun i d e => ?_) (fun i x H H' hi sm y => ?_) fun H ys sm hx dx => k D H ys hD sm hx ?_
  · cases e2 : ks[i]? with
    | none => rw [e2] at e; cases e
    | some b => rw [e2] at e; exact nl b d e
  · obtain ⟨rfl, k', w, hk, rfl⟩ := y
    obtain ⟨p, hp, rfl, _⟩ := dkv_at hk
    show LcTurn K g tt te σ vs (.int (p : Int)) _ (ks[i]?.bind h)
    rw [hp]
    exact turn p _ (List.mem_of_getElem? hp) sm
  · rw [dkv_len, range_bind] at dx
    exact dx
end
/-! ### dict comprehensions by place -/
section
variable {J : It} {n : Nat} {G : Hp → Prop} {Y : Nat → Hp → V → Hp → Prop} {g : TG} {tt : TT} {tk tv : TE} {vs : List Nat} {σ : L2.St} {H1 : Hp} {D : Addr} {Qd : Hp → Prop} {ks : List Nat} {f : Nat → V}
/-- what a turn does: a place with its value, or nothing -/
def DgTurn (g : TG) (tt : TT) (tk tv : TE) (σ : L2.St) (vs : List Nat) (x : V) (H : Hp) (t : Bool) (p : Nat) (v : V) : Prop :=
  ∀ (Qy : V → V → Hp → Prop) (Qn : Hp → Prop), (t = true → ∀ H2, Same H H2 → Qy (.int (p : Int)) v H2) → (t = false → ∀ H2, Same H H2 → Qn H2) →
    g x (wipe σ vs) H fun σ2 H2 => wipe σ2 vs = wipe σ vs ∧ tt σ2 H2 fun b H3 => if b = true then tk σ2 H3 fun y H4 => tv σ2 H4 fun z H5 => Qy y z H5 else Qn H3
theorem dgW (wk : Walk J n G Y) (hD : H1 D = none) (test : Nat → Bool) (hn : n = ks.length) (nd : ks.Nodup) (hz : ks.length ≤ 1000) (hG : ∀ H, Same H1 H → G H) (hY : ∀ i H x H', Y i H x H' → Same H H')
    (turn : ∀ i p x H H', ks[i]? = some p → Same H1 H → Y i H x H' → DgTurn g tt tk tv σ vs x H' (test p) p (f p)) (k : ∀ H, Same H1 H → H D = some (.dK (dkv (ks.filter test) f)) → Qd H) :
    ∃ W : Nat → Nat → Hp → Prop, (∃ m, W 0 m (upd H1 D (.dK []))) ∧ ∀ i m H, W i m H → (J.stop i H ∧ Qd H) ∨ (J.go i H ∧ ∃ Nx : Hp → Prop, (∀ H', Nx H' → ∃ m', m' < m ∧ W (i + 1) m' H') ∧
      ∀ x H', J.yld i H x H' → g x (wipe σ vs) H' fun σ2 H2 => wipe σ2 vs = wipe σ vs ∧ tt σ2 H2 fun b H3 => if b = true then tk σ2 H3 fun y H4 => tv σ2 H4 fun z H5 => rPutK D y z H5 Nx else Nx H3) := by
  refine dg_it (o := .dK []) (r := rPutK) wk (fun i H => Same H1 H ∧ H D = some (.dK (dkv ((ks.take i).filter test) f))) ⟨same_new hD, upd_same⟩ (fun i H _ p => hG H p.1) (fun i x H H' hi p y => ?_) fun H p => ?_
  · obtain ⟨sm, hx⟩ := p
    have s2 := hY i H x H' y
    have hi2 : i < ks.length := by omega
    have hp := List.getElem?_eq_getElem hi2
    have tk : ks.take (i + 1) = ks.take i ++ [ks[i]] := by rw [List.take_succ, hp]; rfl
    have notin : ks[i] ∉ ks.take i := fun z => by
      have nt : (ks.take (i + 1)).Nodup := nd.sublist (List.take_sublist _ _)
      rw [tk, List.nodup_append] at nt
      exact nt.2.2 _ z _ (List.mem_singleton.mpr rfl) rfl
    refine turn i ks[i] x H H' hp sm y _ _ (fun ht H2 s3 => ?_) fun ht H2 s3 => ⟨sm.trans (s2.trans s3), ?_⟩
    · have hx2 := s3 D _ (s2 D _ hx)
      refine ⟨_, Sum.inl ((ks[i] : Nat) : Int), rfl, hx2, ?_, same_mut (sm.trans (s2.trans s3)) hD, ?_⟩
      · rw [dkv_len]
        refine small1000 (Nat.le_trans (List.length_filter_le _ _) ?_)
        rw [List.length_take]; omega
      · rw [upd_same, dkv_put (fun z => notin (List.mem_filter.mp z).1), tk, List.filter_append]
        have : [ks[i]].filter test = [ks[i]] := by simp [ht]
        rw [this]
        congr 2
        refine dkv_ext fun q hq => ?_
        by_cases e : q = ks[i]
        · rw [if_pos e, e]
        · rw [if_neg e]
    · have hx2 := s3 D _ (s2 D _ hx)
      rw [hx2, tk, List.filter_append]
      have : [ks[i]].filter test = [] := by simp [ht]
      rw [this, List.append_nil]
  · obtain ⟨sm, hx⟩ := p
    rw [hn, List.take_length] at hx
    exact k H sm hx
end
end K68
set_option maxRecDepth 100000
set_option maxHeartbeats 400000
namespace K68
open PySem PySem.Spec PyProof.Rows L2
section
variable {P : Program} {w : World} {K : PySem.W.Frag} {mg : Str → Option Value} {base : Heap}
/-- track.places -/
theorem tr_places (F : Fx K mg) {H : Hp} {v : V} {T : Trk} (h : TrAt K H v T) : ∃ a C dx fs, v = .ref a ∧ H a = some (.ins C dx fs) ∧ Cls K C ∧ NoAttr K C "places" ∧ fs.lookup ("places" : Str) = some (.int T.length) := by
  obtain ⟨a, dx, fs, kv, rfl, h2, h3, h4, h5⟩ := h
  exact ⟨a, _, dx, fs, rfl, h2, F.cls, F.no_places, h3⟩
theorem natV_get {ks : List Nat} {i : Nat} {x : V} (h : (ks.map natV)[i]? = some x) : ∃ p, ks[i]? = some p ∧ x = .int (p : Int) := by
  rw [List.getElem?_map] at h
  cases e : ks[i]? with
  | none => rw [e] at h; cases h
  | some p => rw [e] at h; cases h; exact ⟨p, rfl, rfl⟩
/-- a list with a value by place -/
def byF (n : Nat) (f : Nat → V) : List V := (List.range n).map f
theorem byF_len {n : Nat} {f : Nat → V} : (byF n f).length = n := by unfold byF; rw [List.length_map, List.length_range]
theorem byF_get {n : Nat} {f : Nat → V} {p : Nat} (h : p < n) : (byF n f)[p]? = some (f p) := by
  unfold byF
  rw [List.getElem?_map, List.getElem?_range h]; rfl
theorem byF_set {n : Nat} {f : Nat → V} {p : Nat} {v : V} : (byF n f).set p v = byF n (fun q => if q = p then v else f q) := by
  apply List.ext_getElem?
  intro i
  rw [List.getElem?_set, byF_len]
  by_cases hi : i < n
  · rw [byF_get hi, byF_get hi]
    by_cases e : p = i
    · rw [if_pos e, if_pos (by omega)]
      show _ = some (if i = p then v else f i)
      rw [if_pos e.symm]
    · rw [if_neg e]
      show _ = some (if i = p then v else f i)
      rw [if_neg (Ne.symm e)]
  · rw [List.getElem?_eq_none (by rw [byF_len]; omega), List.getElem?_eq_none (by rw [byF_len]; omega)]
    by_cases e : p = i
    · rw [if_pos e, if_neg (by omega)]
    · rw [if_neg e]
theorem fmS {α β : Type} (f : α → β) (l : List α) : l.filterMap (fun x => some (f x)) = l.map f := congrFun (List.filterMap_eq_map (f := f)) l
theorem dpAll_nones {α : Type} {H : Hp} : ∀ {l : List α} {xs : List V}, DpAll K H xs (l.map fun _ => PyData.none) → xs = l.map fun _ => V.non
  | [], _, h => dpAll_nil h
  | a :: l, _, h => by
    obtain ⟨x, r, rfl, h1, h2⟩ := dpAll_cons h
    rw [dp_none h1, dpAll_nones h2]; rfl
theorem byF_ext {n : Nat} {f g : Nat → V} (h : ∀ p, p < n → f p = g p) : byF n f = byF n g := List.map_congr_left fun p hp => h p (List.mem_range.mp hp)
def keptOf (n : Nat) (fo : Nat → V) : List Nat := (List.range n).filter fun p => decide (fo p = .non)
theorem mem_kept {n : Nat} {fo : Nat → V} {p : Nat} : p ∈ keptOf n fo ↔ p < n ∧ fo p = .non := by
  unfold keptOf
  rw [List.mem_filter, List.mem_range, decide_eq_true_iff]
theorem kept_len {n : Nat} {fo : Nat → V} : (keptOf n fo).length ≤ n := by
  have := List.length_filter_le (fun p => decide (fo p = .non)) (List.range n)
  rw [List.length_range] at this
  exact this
theorem fm_filter {ks : List Nat} {t : Nat → Bool} : ks.filterMap (fun p => if t p = true then some (natD p) else none) = (ks.filter t).map natD := by
  induction ks with
  | nil => rfl
  | cons p ks ih =>
    by_cases c : t p = true
    · rw [List.filter_cons_of_pos c, List.map_cons, ← ih]; simp [c]
    · rw [List.filter_cons_of_neg c, ← ih]; simp [c]
/-- the weight that stays at the kept places -/
def wKept (T : Trk) (fo : Nat → V) (p : Nat) : Nat := wtBack (fun g => decide (g ∈ keptOf T.length fo)) (trOf T p)
theorem ixn {n j : Nat} (hj : j < n) : ixN n (j : Int) = some j := by
  unfold ixN
  rw [if_pos (by omega), if_pos (by omega)]
  simp
/-- all but the thing at a -/
def SameX (a : Addr) (H H' : Hp) : Prop := ∀ b u, b ≠ a → H b = some u → H' b = some u
theorem SameX.refl {a : Addr} {H : Hp} : SameX a H H := fun _ _ _ h => h
theorem SameX.put {a : Addr} {H H' : Hp} {o : HO} (h : SameX a H H') : SameX a H (upd H' a o) := fun b u e hb => (upd_ne e).trans (h b u e hb)
theorem SameX.same {a : Addr} {H H' H2 : Hp} (h : SameX a H H') (s : Same H' H2) : SameX a H H2 := fun b u e hb => s b u (h b u e hb)
theorem SameX.of {a : Addr} {H H' : Hp} (s : Same H H') : SameX a H H' := fun b u _ hb => s b u hb
theorem SameX.join {a : Addr} {H0 H H' : Hp} (s : Same H0 H) (h : SameX a H H') (n : H0 a = none) : Same H0 H' := fun b u hb => h b u (ne_of_none hb n) (s b u hb)
theorem SameX.trans {a : Addr} {H0 H H' : Hp} (s : SameX a H0 H) (h : SameX a H H') : SameX a H0 H' := fun b u e hb => h b u e (s b u e hb)
theorem kept_step {n : Nat} {fo fo' : Nat → V} (h : ∀ p, fo' p = .non → fo p = .non) : (keptOf n fo).filter (fun p => decide (fo' p = .non)) = keptOf n fo' := by
  unfold keptOf
  rw [List.filter_filter]
  refine List.filter_congr fun p _ => ?_
  by_cases c : fo' p = .non
  · rw [decide_eq_true c, decide_eq_true (h p c)]; rfl
  · rw [decide_eq_false c]; rfl
def RkInv (H0 : Hp) (v : V) (T : Trk) (m : Nat) (σ : L2.St) (H : Hp) : Prop := ∃ (a k s : Addr) (fo : Nat → V) (ss : List Nat) (t : Int) (pl : Option V),
  σ = [some v, some (.ref a), some (.ref k), some (.ref s), some (.int t), pl] ∧ Same H0 H ∧ H0 a = none ∧ H a = some (.lst (byF T.length fo)) ∧ H k = some (.lst ((keptOf T.length fo).map natV)) ∧ H s = some (.lst (ss.map natV)) ∧ k ≠ a ∧ s ≠ a ∧
  (∀ p, fo p = .non ∨ ∃ t : Int, fo p = .int t) ∧ (ss = [] → ∀ p ∈ keptOf T.length fo, 2520 ≤ wKept T fo p) ∧ m = if ss = [] then 0 else (keptOf T.length fo).length + 1
theorem TrOk.at (ok : TrOk T) {p : Nat} (h : p < T.length) : ∃ l, T[p]? = some l ∧ trOf T p = l.map (·.2) ∧ l.length ≤ 4 ∧ (∀ s ∈ l, s.2.1 ≤ 9) ∧ (∀ s ∈ l, s.2.2 < T.length) := by
  have hl := List.getElem?_eq_getElem h
  have hm := List.getElem_mem h
  exact ⟨_, hl, trOf_at hl, ok.len _ hm, ok.pay _ hm, ok.goal _ hm⟩
/-- ranks: none at the places that are kept -/
def spRanks (K : PySem.W.Frag) : Sp := fun vs H Q _ => ∃ (v : V) (T : Trk), vs = [v] ∧ TrAt K H v T ∧ TrOk T ∧
  ∀ (H' : Hp) (a : Addr) (f : Nat → V), Same H H' → H' a = some (.tup (byF T.length f)) → (∀ p, f p = .non ∨ ∃ t : Int, f p = .int t) →
    (∀ p, p < T.length → f p = .non → 2520 ≤ wtBack (fun g => decide (g < T.length ∧ f g = .non)) (trOf T p)) → Q (.ref a) H'
theorem sc_ranks_of : FnScope ["track", "found", "kept", "struck", "turn", "place"] ["track"] (defScope s_ranks_of) := ⟨rfl, rfl, rfl, by decide +kernel, rfl, by decide +kernel, by decide +kernel⟩
theorem c_ranks_of (F : Fx K mg) : C8.Cal P w K mg base 3 "ranks_of" (spRanks K) [] := by
  refine (F.cal (d := d_ranks_of) (k := 2) 15 (j := 13) rfl rfl rfl sc_ranks_of (fun _ _ _ _ _ _ us hl => match us, hl with | [_], _ => rfl) (fun vs H Q E h => ?_) (fun f cdv A outer s H vs Q E hr h => ?_))
  · obtain ⟨v, T, rfl, _⟩ := h; rfl
  · refine ⟨_, (pss_cons (ps_set (i := 1) sc_ranks_of.nd rfl (Or.inr rfl) (pe_lc (own := [("place", 5)]) (g := gName 5) rfl sc_ranks_of.nd (pi_range1 (by rfl) F.range (pa_cons (fldK (K := K) rfl (pv 0) rfl) pa_nil)) (blkOk_by (own := [("place", 5)]) (N := ["track", "found", "kept", "struck", "turn", "place"]) (sc := defScope s_ranks_of) (by decide +kernel)) (fun _ _ _ _ _ => (pg_name (i := 5) sc_ranks_of.nd rfl (Or.inl rfl))) (fun _ _ _ _ _ => pts_nil) (fun _ _ _ _ _ => pe_non)))
      (pss_cons (ps_set (i := 2) sc_ranks_of.nd rfl (Or.inr rfl) (pe_listRg rfl (by rfl) F.list (prg_1 (by rfl) F.range (fldK (K := K) rfl (pv 0) rfl))))
      (pss_cons (ps_set (i := 3) sc_ranks_of.nd rfl (Or.inl rfl) (pv 2))
      (pss_cons (ps_set (i := 4) sc_ranks_of.nd rfl (Or.inl rfl) pe_int)
      (pss_cons (ps_while PassesOwn.never (pt_cmpR op_gt (pe_callB (lenS (K := K) rfl) (by rfl) F.len (by decide +kernel) (pa_cons (pv 3) pa_nil)) pe_int (nomark _)) (pss_cons (ps_aug (i := 4) sc_ranks_of.nd rfl (Or.inl rfl) pe_int ip_add)
      (pss_cons (ps_setLc (i := 3) (own := [("place", 5)]) (g := gName 5) rfl sc_ranks_of.nd rfl rfl (sw_true rfl rfl rfl (by decide +kernel)) (piL (K := K) rfl (pv 2)) (blkOk_by (own := [("place", 5)]) (N := ["track", "found", "kept", "struck", "turn", "place"]) (sc := defScope s_ranks_of) (by decide +kernel)) (fun _ _ _ _ _ => (pg_name (i := 5) sc_ranks_of.nd rfl (Or.inl rfl))) (fun _ _ _ _ _ => (pts_one (pt_cmpR op_lt (C8.pe_c (c_weight_back F) hr (by decide) (by rfl) (pa_cons (pv 0) (pa_cons (pv 5) (pa_cons (pv 2) pa_nil)))) (C8.pe_gc (by rfl) F.g_WHOLE) (nomark _)))) (fun _ _ _ _ _ => (pv 5)))
      (pss_cons (ps_for PassesOwn.never rfl (piL (K := K) rfl (pv 3)) (pg_name (i := 5) sc_ranks_of.nd rfl (Or.inl rfl)) (pss_one (ps_asg (pv 4) (pg_sub (pv 1) (pv 5) set_list))))
      (pss_one (ps_set (i := 2) sc_ranks_of.nd rfl (Or.inr rfl) (pe_lc (own := [("place", 5)]) (g := gName 5) rfl sc_ranks_of.nd (piL (K := K) rfl (pv 2)) (blkOk_by (own := [("place", 5)]) (N := ["track", "found", "kept", "struck", "turn", "place"]) (sc := defScope s_ranks_of) (by decide +kernel)) (fun _ _ _ _ _ => (pg_name (i := 5) sc_ranks_of.nd rfl (Or.inl rfl))) (fun _ _ _ _ _ => (pts_one (pt_cmpR op_isN (pe_ix (ixL (K := K) rfl) (pv 1) (pv 5) (fun _ _ => rfl)) pe_non (nomark _)))) (fun _ _ _ _ _ => (pv 5)))))))))
      (pss_one (ps_ret (pe_callTy (tupOf (K := K) rfl) (by rfl) F.tuple (by decide +kernel) (pa_cons (pv 1) pa_nil))))))))), ?_⟩
    obtain ⟨v, T, rfl, ht, ok, q⟩ := h
    have n12 := ok.few
    obtain ⟨ta, tC, tdx, tfs, tv, t1, t2, t3, t4⟩ := tr_places F ht
    refine ⟨v, rfl, ta, tC, tdx, tfs, _, tv, t1, t2, t3, t4, _, rfl, by omega, by omega, ?_⟩
    refine lcRg (K := K) (fun _ => some .none) (by omega) (fun a d e => by cases e; exact .non) (fun i H2 hi sm => lct_name rfl fun Qy qy => qy _ _ (Same.refl _) .non) fun D H2 xs hD sm hx dx => ?_
    have ex : xs = byF T.length fun _ => .non := by
      have e1 : (List.range ((T.length : Nat) : Int).toNat).filterMap (fun _ => some PyData.none) = (List.range T.length).map fun _ => PyData.none := fmS _ _
      rw [e1] at dx
      exact dpAll_nones dx
    subst ex
    refine ⟨v, rfl, ta, tC, tdx, tfs, _, tv, sm _ _ t1, t2, t3, t4, _, rfl, RgOk.of_le (by omega) (by omega) (by omega) (by omega), fun k hk => ?_⟩
    have hDk : D ≠ k := fun z => by rw [z, hk] at hx; cases hx
    refine ⟨_, rfl, ?_⟩
    refine ⟨RkInv H v T, ⟨T.length + 1, D, k, k, fun _ => .non, List.range T.length, 0, none, rfl, sm.trans (same_new hk), hD, (upd_ne hDk).trans hx, ?_, ?_, hDk.symm, hDk.symm, fun _ => .inl rfl, fun z => ?_, ?_⟩, ?_⟩
    · have e : keptOf T.length (fun _ => V.non) = List.range T.length := List.filter_eq_self.mpr fun _ _ => rfl
      rw [e, upd_same]
      unfold rgV natV
      simp
    · rw [upd_same]
      unfold rgV natV
      simp
    · have := ok.pos
      rw [List.range_eq_nil] at z
      omega
    · have e : keptOf T.length (fun _ => V.non) = List.range T.length := List.filter_eq_self.mpr fun _ _ => rfl
      have := ok.pos
      rw [e, if_neg (by rw [List.range_eq_nil]; omega), List.length_range]
    rintro m σ H3 ⟨a, k2, s2, fo, ss, t, pl, rfl, sm3, h0a, ha, hk2, hs2, ne1, ne2, kinds, full, rfl⟩
    have kl := kept_len (n := T.length) (fo := fo)
    have full' : ∀ p ∈ keptOf T.length fo, ∀ l, T[p]? = some l → wKept T fo p = wtBack (fun g => decide (g ∈ keptOf T.length fo)) (l.map (·.2)) := fun p _ l hl => by unfold wKept; rw [trOf_at hl]
    refine ⟨_, rfl, s2, _, rfl, .inl (SqL.of hs2), _, _, rfl, rfl, _, rfl, ite2 (fun c => ?_) fun c => ?_⟩
    · have ne : ss ≠ [] := fun z => by rw [z] at c; simp at c
      rw [if_neg ne]
      refine ⟨fun σ' H' => ∃ m', m' < (keptOf T.length fo).length + 1 ∧ RkInv H v T m' σ' H', fun _ _ h => h, ?_⟩
      refine ⟨_, rfl, _, _, rfl, rfl, ?_⟩
      refine ⟨_, rfl, ?_⟩
      refine lcL (K := K) (enc := natD) (dp_nats (SqL.of hk2)) (fun p => if decide (wKept T fo p < 2520) = true then some (natD p) else none) (by omega) (fun p d e => ?_) (fun p x H4 hp sm4 dx => ?_) fun D4 H4 xs hD4 sm4 hx4 dx4 => ?_
      · by_cases c : decide (wKept T fo p < 2520) = true
        · rw [if_pos c] at e; cases e; exact nl_nat _
        · rw [if_neg c] at e; cases e
      · obtain rfl := dp_int dx
        intro Qy Qn qy qn
        obtain ⟨l, l1, l2, l3, l4, l5⟩ := ok.at (mem_kept.mp hp).1
        refine ⟨rfl, _, rfl, _, rfl, _, rfl, v, T, p, l, k2, _, rfl, TrAt.same (sm3.trans sm4) ht, l1, by omega, l4, SqL.of (sm4 _ _ hk2), fun H5 sm5 => ⟨_, _, rfl, rfl, _, rfl, ?_⟩⟩
        rw [← full' p hp l l1]
        refine ite2 (fun c => ?_) fun c => ?_
        · exact ⟨_, rfl, qy _ _ _ (if_pos (decide_eq_true (by have := of_decide_eq_true c; omega))) sm5 (.int _)⟩
        · exact qn (if_neg fun z => c (decide_eq_true (by have := of_decide_eq_true z; omega))) _ sm5
      · rw [fm_filter] at dx4
        obtain rfl := nats_of dx4
        have neD : D4 ≠ a := fun z => by rw [z, ha] at hD4; cases hD4
        have nek : k2 ≠ D4 := fun z => by rw [← z, hk2] at hD4; cases hD4
        generalize hss : (keptOf T.length fo).filter (fun p => decide (wKept T fo p < 2520)) = s' at hx4
        refine ⟨_, rfl, ?_⟩
        have ss12 : s'.length ≤ 12 := by
          have := List.length_filter_le (fun p => decide (wKept T fo p < 2520)) (keptOf T.length fo)
          rw [hss] at this
          omega
        refine forL (K := K) (enc := natD) (dp_nats (SqL.of hx4)) (fun i σ H => ∃ (fo' : Nat → V) (pl' : Option V), σ = [some v, some (.ref a), some (.ref k2), some (.ref D4), some (.int (t + 1)), pl'] ∧ SameX a H4 H ∧ H a = some (.lst (byF T.length fo')) ∧ ∀ p, fo' p = if p ∈ s'.take i then .int (t + 1) else fo p)
          ⟨fo, _, rfl, SameX.refl, sm4 _ _ ha, fun p => by rw [List.take_zero, if_neg (by simp)]⟩ (fun i σ H h => ?_) (fun i p x σ H hp dx h => ?_) fun σ H h => ?_
        · obtain ⟨fo', pl', _, sm5, _, _⟩ := h
          exact dp_nats (SqL.of (sm5 _ _ neD hx4))
        · obtain rfl := dp_int dx
          obtain ⟨fo', pl', rfl, sm5, ha5, hfo⟩ := h
          have hps : p ∈ s' := List.mem_of_getElem? hp
          have hpn : p < T.length := by rw [← hss] at hps; exact (mem_kept.mp (List.mem_filter.mp hps).1).1
          refine ⟨_, rfl, _, rfl, _, rfl, a, _, (p : Int), p, rfl, rfl, ha5, ?_, _, _, rfl, sm5.put, upd_same.trans (by rw [byF_set]), fun q => ?_⟩
          · exact ixn (by rw [byF_len]; exact hpn)
          · rw [List.take_succ, hp]
            show (if q = p then V.int (t + 1) else fo' q) = if q ∈ s'.take i ++ [p] then _ else _
            rw [hfo q]
            by_cases e : q = p
            · rw [if_pos e, if_pos (List.mem_append.mpr (.inr (List.mem_singleton.mpr e)))]
            · rw [if_neg e]
              by_cases e2 : q ∈ s'.take i
              · rw [if_pos e2, if_pos (List.mem_append.mpr (.inl e2))]
              · rw [if_neg e2, if_neg fun z => (List.mem_append.mp z).elim e2 fun z => e (List.mem_singleton.mp z)]
        · obtain ⟨fo', pl', rfl, sm5, ha5, hfo⟩ := h
          rw [List.take_length] at hfo
          have hk5 : H k2 = some (.lst ((keptOf T.length fo).map natV)) := sm5 _ _ ne1 (sm4 _ _ hk2)
          have hD5 : H D4 = some (.lst (s'.map natV)) := sm5 _ _ neD hx4
          refine ⟨_, rfl, ?_⟩
          refine lcL (K := K) (enc := natD) (dp_nats (SqL.of hk5)) (fun p => if decide (fo' p = .non) = true then some (natD p) else none) (by omega) (fun p d e => ?_) (fun p x H6 hp sm6 dx => ?_) fun D6 H6 xs hD6 sm6 hx6 dx6 => ?_
          · by_cases c : decide (fo' p = .non) = true
            · rw [if_pos c] at e; cases e; exact nl_nat _
            · rw [if_neg c] at e; cases e
          · obtain rfl := dp_int dx
            intro Qy Qn qy qn
            refine ⟨rfl, _, rfl, _, rfl, a, _, (p : Int), fo' p, rfl, rfl, SqL.of (sm6 _ _ ha5), atI_nat (byF_get (mem_kept.mp hp).1), rfl, _, rfl, ?_⟩
            refine ite2 (fun c => ?_) fun c => ?_
            · exact ⟨_, rfl, qy _ _ _ (if_pos c) (Same.refl _) (.int _)⟩
            · exact qn (if_neg c) _ (Same.refl _)
          · rw [fm_filter] at dx6
            obtain rfl := nats_of dx6
            have back : ∀ p, fo' p = .non → fo p = .non := fun p e => by
              rw [hfo p] at e
              by_cases c : p ∈ s'
              · rw [if_pos c] at e; cases e
              · rw [if_neg c] at e; exact e
            rw [kept_step back] at hx6
            refine ⟨_, ?_, a, D6, D4, fo', s', t + 1, pl', rfl, (SameX.join (sm3.trans sm4) sm5 h0a).trans sm6, h0a, sm6 _ _ ha5, hx6, sm6 _ _ hD5, (fun z => by rw [z, ha5] at hD6; cases hD6), neD, fun p => ?_, fun z p hp => ?_, rfl⟩
            · by_cases c : s' = []
              · rw [if_pos c]; omega
              · rw [if_neg c]
                obtain ⟨p, r, e⟩ := List.exists_cons_of_ne_nil c
                have hp : p ∈ s' := by rw [e]; exact List.mem_cons_self
                have lt : (keptOf T.length fo').length < (keptOf T.length fo).length := by
                  rw [← kept_step back]
                  refine List.length_filter_lt_length_iff_exists.mpr ⟨p, ?_, ?_⟩
                  · rw [← hss] at hp; exact (List.mem_filter.mp hp).1
                  · rw [hfo p, if_pos hp]; simp
                omega
            · rw [hfo p]
              by_cases c : p ∈ s'
              · rw [if_pos c]; exact .inr ⟨_, rfl⟩
              · rw [if_neg c]; exact kinds p
            · have e : fo' = fo := funext fun q => by rw [hfo q, if_neg (by rw [z]; simp)]
              rw [e] at hp ⊢
              apply Classical.byContradiction
              intro no
              have : p ∈ s' := by rw [← hss]; exact List.mem_filter.mpr ⟨hp, decide_eq_true (by omega)⟩
              rw [z] at this
              simp at this
    · have ne : ss = [] := by
        cases ss with
        | nil => rfl
        | cons a r => exact absurd (decide_eq_true (by simp)) c
      refine ⟨_, rfl, a, _, rfl, .inl ⟨SqL.of ha, fun l hl => q _ l fo (sm3.trans (same_new hl)) upd_same kinds fun p hp e => ?_⟩⟩
      have := full ne p (mem_kept.mpr ⟨hp, e⟩)
      unfold wKept at this
      have eF : (fun g => decide (g ∈ keptOf T.length fo)) = fun g => decide (g < T.length ∧ fo g = .non) := funext fun g => by
        by_cases c : g ∈ keptOf T.length fo
        · rw [decide_eq_true c, decide_eq_true (mem_kept.mp c)]
        · rw [decide_eq_false c, decide_eq_false fun z => c (mem_kept.mpr z)]
      rw [eF] at this
      exact this
end
end K68
set_option maxRecDepth 100000
set_option maxHeartbeats 400000
namespace K68
open PySem PySem.Spec PyProof.Rows L2
section
variable {P : Program} {w : World} {K : PySem.W.Frag} {mg : Str → Option Value} {base : Heap}
def spFull (K : PySem.W.Frag) : Sp := fun vs H Q _ => ∃ (v : V) (T : Trk), vs = [v] ∧ TrAt K H v T ∧ TrOk T ∧
  ∀ (H' : Hp) (a : Addr) (fs : List Nat), Same H H' → H' a = some (.tup (fs.map natV)) → (∀ p ∈ fs, p < T.length) → (∀ p ∈ fs, 2520 ≤ wtBack (fun g => decide (g ∈ fs)) (trOf T p)) → Q (.ref a) H'
theorem sc_full_places : FnScope ["track", "place", "rank"] ["track"] (defScope s_full_places) := ⟨rfl, rfl, rfl, by decide +kernel, rfl, by decide +kernel, by decide +kernel⟩
theorem c_full_places (F : Fx K mg) : C8.Cal P w K mg base 4 "full_places" (spFull K) [] := by
  refine (F.cal (d := d_full_places) (k := 3) 16 (j := 14) rfl rfl rfl sc_full_places (fun _ _ _ _ _ _ us hl => match us, hl with | [_], _ => rfl) (fun vs H Q E h => ?_) (fun f cdv A outer s H vs Q E hr h => ?_))
  · obtain ⟨v, T, rfl, _⟩ := h; rfl
  · refine ⟨_, (pss_one (ps_ret (pe_callTy (tupOf (K := K) rfl) (by rfl) F.tuple (by decide +kernel) (pa_cons (pe_lc (own := [("place", 1), ("rank", 2)]) (g := gTup K 2 (gCons (gName 1) (gCons (gName 2) (gNil)))) rfl sc_full_places.nd (pi_enumT (by rfl) F.enumerate (pa_cons (C8.pe_c (c_ranks_of F) hr (by decide) (by rfl) (pa_cons (pv 0) pa_nil)) pa_nil)) (blkOk_by (own := [("place", 1), ("rank", 2)]) (N := ["track", "place", "rank"]) (sc := defScope s_full_places) (by decide +kernel)) (fun _ _ _ _ _ => (tupK (K := K) (n := 2) rfl rfl (pgs_cons (pg_name (i := 1) sc_full_places.nd rfl (Or.inl rfl)) (pgs_cons (pg_name (i := 2) sc_full_places.nd rfl (Or.inl rfl)) pgs_nil)))) (fun _ _ _ _ _ => (pts_one (pt_cmpR op_isN (pv 2) pe_non (nomark _)))) (fun _ _ _ _ _ => (pv 1))) pa_nil)))), ?_⟩
    obtain ⟨v, T, rfl, ht, ok, q⟩ := h
    have n12 := ok.few
    refine ⟨_, rfl, v, T, rfl, ht, ok, fun H2 a fo sm ha kinds full => ⟨a, _, rfl, SqT.of ha, ?_⟩⟩
    intro D hD
    refine lcW (K := K) walk_enumT hD (fun i => if decide (fo i = .non) = true then some (natD i) else none) (by rw [byF_len]; exact small1000 (by omega)) (fun H s => same_t s (SqT.of ha)) (fun i H x H' y => by obtain ⟨T', x', y', h1, h2, h3, _⟩ := y; rw [h3]; exact same_new h2) (fun i d e => ?_) (fun i x H H' hi sm y => ?_) fun H3 xs sm3 hx dx => ?_
    · by_cases c : decide (fo i = .non) = true
      · rw [if_pos c] at e; cases e; exact nl_nat _
      · rw [if_neg c] at e; cases e
    · obtain ⟨t, x1, x2, rfl, h2, rfl, h4, h5⟩ := y
      rw [byF_len] at hi
      have h5 : (byF T.length fo)[i]? = some x2 := h5
      rw [byF_get hi] at h5
      cases h4
      cases h5
      intro Qy Qn qy qn
      refine ⟨t, _, rfl, SqT.of upd_same, rfl, _, _, rfl, _, _, rfl, rfl, rfl, _, rfl, rfl, _, rfl, ite2 (fun c => ?_) fun c => ?_⟩
      · exact ⟨_, rfl, qy _ _ _ (if_pos c) (Same.refl _) (.int _)⟩
      · exact qn (if_neg c) _ (Same.refl _)
    · rw [byF_len, fm_filter] at dx
      obtain rfl := nats_of dx
      have eF : (fun g => decide (g ∈ keptOf T.length fo)) = fun g => decide (g < T.length ∧ fo g = .non) := funext fun g => by
        by_cases c : g ∈ keptOf T.length fo
        · rw [decide_eq_true c, decide_eq_true (mem_kept.mp c)]
        · rw [decide_eq_false c, decide_eq_false fun z => c (mem_kept.mpr z)]
      refine ⟨D, _, rfl, .inl ⟨SqL.of hx, fun l hl => q _ l (keptOf T.length fo) (sm.trans (sm3.trans (same_new hl))) upd_same (fun p hp => (mem_kept.mp hp).1) fun p hp => ?_⟩⟩
      rw [eF]
      exact full p (mem_kept.mp hp).1 (mem_kept.mp hp).2
/-- what can be come to from p -/
structure Rch (tr : Tr) (n p : Nat) (rs : List Nat) : Prop where
  self : p ∈ rs
  low : ∀ q ∈ rs, q < n
  cl : Closed tr (· ∈ rs)
  ind : ∀ P : Nat → Prop, P p → (∀ q, q < n → P q → ∀ e ∈ tr q, P e.2) → ∀ q ∈ rs, P q
def spReached (K : PySem.W.Frag) : Sp := fun vs H Q _ => ∃ (v : V) (T : Trk) (p : Nat), vs = [v, .int (p : Int)] ∧ TrAt K H v T ∧ TrOk T ∧ p < T.length ∧
  ∀ (H' : Hp) (a : Addr) (rs : List Nat), Same H H' → H' a = some (.tup (rs.map natV)) → rs.length ≤ 12 → Rch (trOf T) T.length p rs → Q (.ref a) H'
/-- between two turns -/
structure RcB (T : Trk) (p : Nat) (ks td : List Nat) : Prop where
  self : p ∈ ks
  nd : ks.Nodup
  low : ∀ q ∈ ks, q < T.length
  sub : ∀ q ∈ td, q ∈ ks
  ind : ∀ P : Nat → Prop, P p → (∀ q, q < T.length → P q → ∀ e ∈ trOf T q, P e.2) → ∀ q ∈ ks, P q
theorem RcB.len {T : Trk} {p : Nat} {ks td : List Nat} (h : RcB T p ks td) : ks.length ≤ T.length := by
  have := h.nd.length_le_of_subset (fun q hq => List.mem_range.mpr (h.low q hq))
  rw [List.length_range] at this
  exact this
def RcInv (H0 : Hp) (v : V) (T : Trk) (p : Nat) (m : Nat) (σ : L2.St) (H : Hp) : Prop := ∃ (a d : Addr) (ks td : List Nat) (p4 p5 p6 : Option V),
  σ = [some v, some (.int (p : Int)), some (.ref a), some (.ref d), p4, p5, p6] ∧ Same H0 H ∧ H0 a = none ∧ H0 d = none ∧ a ≠ d ∧ H a = some (.dK (dkv ks fun _ => .bl true)) ∧ H d = some (.lst (td.map natV)) ∧ RcB T p ks td ∧
  (∀ q ∈ ks, q ∉ td → ∀ e ∈ trOf T q, e.2 ∈ ks) ∧ m = 2 * (T.length - ks.length) + td.length ∧ m ≤ 30
theorem nod1 (a : Nat) : [a].Nodup := List.nodup_cons.mpr ⟨by simp, List.nodup_nil⟩
theorem sz {n : Nat} (h : n ≤ 1000) : n ≤ sizeLine := Nat.le_of_lt (small1000 h)
theorem sc_reached_from : FnScope ["track", "place", "found", "todo", "letter", "pay", "goal"] ["track", "place"] (defScope s_reached_from) := ⟨rfl, rfl, rfl, by decide +kernel, rfl, by decide +kernel, by decide +kernel⟩
theorem c_reached_from (F : Fx K mg) : C8.Cal P w K mg base 2 "reached_from" (spReached K) [] := by
  refine (F.cal (d := d_reached_from) (k := 1) 12 (j := 10) rfl rfl rfl sc_reached_from (fun _ _ _ _ _ _ us hl => match us, hl with | [_, _], _ => rfl) (fun vs H Q E h => ?_) (fun f cdv A outer s H vs Q E hr h => ?_))
  · obtain ⟨v, T, p, rfl, _⟩ := h; rfl
  · refine ⟨_, (pss_cons (ps_set (i := 2) sc_reached_from.nd rfl (Or.inl rfl) (pe_disp (pps_cons (pv 1) pe_bl pps_nil) (by rfl) (by rfl) (fun z => by cases z) (by decide)))
      (pss_cons (ps_set (i := 3) sc_reached_from.nd rfl (Or.inl rfl) (pe_lst (pa_cons (pv 1) pa_nil)))
      (pss_cons (ps_while PassesOwn.never (pt_cmpR op_gt (pe_callB (lenS (K := K) rfl) (by rfl) F.len (by decide +kernel) (pa_cons (pv 3) pa_nil)) pe_int (nomark _)) (pss_one (ps_for PassesOwn.never rfl (piL (K := K) rfl (C8.pe_c (c_steps_of F) hr (by decide) (by rfl) (pa_cons (pv 0) (pa_cons (pe_bm0 PySem.F.plainAttrs_list PySem.F.slot_list_pop PySem.F.type_list_pop mt_pop (pv 3)) pa_nil)))) (tupK (K := K) (n := 3) rfl rfl (pgs_cons (pg_name (i := 4) sc_reached_from.nd rfl (Or.inl rfl)) (pgs_cons (pg_name (i := 5) sc_reached_from.nd rfl (Or.inl rfl)) (pgs_cons (pg_name (i := 6) sc_reached_from.nd rfl (Or.inl rfl)) pgs_nil)))) (pss_one (ps_if (pt_cmp (pc_dnotin (hu_of hr) (pv 6) (pv 2)) rfl) (pss_cons (ps_dput (hu_of hr) (pv 2) (pv 6) pe_bl rfl)
      (pss_one (ps_expr (pe_bm PySem.F.plainAttrs_list PySem.F.slot_list_append PySem.F.type_list_append mt_append (pv 3) (pa_cons (pv 6) pa_nil))))) pss_nil)))))
      (pss_one (ps_ret (pe_callTy (tupOf (K := K) rfl) (by rfl) F.tuple (by decide +kernel) (pa_cons (pe_callB (call_sortedDI rfl) (by rfl) F.sorted (by decide +kernel) (pa_cons (pv 2) pa_nil)) pa_nil))))))), ?_⟩
    obtain ⟨v, T, p, rfl, ht, ok, hp, q⟩ := h
    have n12 := ok.few
    intro a ha
    refine ⟨_, rfl, upd_same, [(Sum.inl (p : Int), .bl true)], rfl, Nat.succ_le_succ (Nat.zero_le _), ?_⟩
    refine ⟨_, rfl, sz (by simp), fun d hd => ?_⟩
    have ned : a ≠ d := fun z => by rw [z, upd_same] at hd; cases hd
    have hd0 : H d = none := by rw [upd_ne ned.symm, upd_ne ned.symm] at hd; exact hd
    refine ⟨RcInv H v T p, ⟨2 * (T.length - 1) + 1, a, d, [p], [p], none, none, none, rfl, ?_, ha, hd0, ned, ?_, upd_same, ⟨List.mem_singleton.mpr rfl, nod1 _, fun q hq => by rw [List.mem_singleton.mp hq]; exact hp, fun q h => h, fun P hP _ q hq => by rw [List.mem_singleton.mp hq]; exact hP⟩, fun q hq no => absurd hq no, rfl, by omega⟩, ?_⟩
    · intro b u hb
      rw [upd_ne (ne_of_none hb hd0), upd_ne (ne_of_none hb ha), upd_ne (ne_of_none hb ha)]
      exact hb
    · rw [upd_ne ned, upd_same]
      rfl
    rintro m σ H1 ⟨a, d, ks, td, p4, p5, p6, rfl, sm, h0a, h0d, ned, ha1, hd1, B, done, rfl, m30⟩
    have kl := B.len
    refine ⟨_, rfl, d, _, rfl, .inl (SqL.of hd1), _, _, rfl, rfl, _, rfl, ite2 (fun c => ?_) fun c => ?_⟩
    · refine ⟨fun σ' H' => ∃ m', m' < 2 * (T.length - ks.length) + td.length ∧ RcInv H v T p m' σ' H', fun _ _ h => h, ?_⟩
      rcases List.eq_nil_or_concat td with z | ⟨td, b, z⟩
      · rw [z] at c; simp at c
      rw [List.concat_eq_append] at z
      subst z
      have bk : b ∈ ks := B.sub b (by simp)
      have bn := B.low b bk
      obtain ⟨l, l1, l2, l3, l4, l5⟩ := ok.at bn
      refine ⟨_, rfl, _, rfl, .inl ⟨rfl, _, SqL.of hd1⟩, d, _, natV b, rfl, rfl, hd1, by simp, ?_⟩
      refine ⟨v, T, b, l, H, rfl, same_mut sm h0d, ht, l1, fun x dx => ?_⟩
      refine forL (K := K) (enc := stepD) (Dp.same (same_mut sm h0d) dx) (fun i σ H1 => ∃ (ks1 td1 : List Nat) (p4 p5 p6 : Option V), σ = [some v, some (.int (p : Int)), some (.ref a), some (.ref d), p4, p5, p6] ∧ Same H H1 ∧ H1 a = some (.dK (dkv ks1 fun _ => .bl true)) ∧ H1 d = some (.lst (td1.map natV)) ∧ RcB T p ks1 td1 ∧
          (∀ q ∈ ks1, q ∉ td1 → q ≠ b → ∀ e ∈ trOf T q, e.2 ∈ ks1) ∧ (∀ s ∈ l.take i, s.2.2 ∈ ks1) ∧ b ∈ ks1 ∧ 2 * (T.length - ks1.length) + td1.length < 2 * (T.length - ks.length) + (td ++ [b]).length)
        ⟨ks, td, _, _, _, rfl, same_mut sm h0d, (upd_ne ned).trans ha1, ?_, ⟨B.self, B.nd, B.low, fun q hq => B.sub q (List.mem_append.mpr (.inl hq)), B.ind⟩, fun q hq no ne => done q hq (fun z => (List.mem_append.mp z).elim no fun z => ne (List.mem_singleton.mp z)), by simp, bk, by simp⟩ (fun i σ H1 h => ?_) (fun i s x σ H1 hs dx h => ?_) fun σ H1 h => ?_
      · rw [upd_same]; simp
      · obtain ⟨ks1, td1, _, _, _, _, sm1, _⟩ := h
        exact Dp.same sm1 ‹_›
      · obtain ⟨ks1, td1, _, _, _, rfl, sm1, ha2, hd2, B1, done1, seen, bk1, lt⟩ := h
        obtain ⟨t, rfl, ht2⟩ := step_tup dx
        refine ⟨t, _, rfl, ht2, rfl, _, _, rfl, _, _, rfl, _, _, rfl, rfl, ?_⟩
        have hsn := l5 s (List.mem_of_getElem? hs)
        have tk : l.take (i + 1) = l.take i ++ [s] := by rw [List.take_succ, hs]; rfl
        refine ⟨_, rfl, _, rfl, a, _, rfl, dk_get (.inl ha2), ?_⟩
        refine ⟨_, rfl, ?_⟩
        rw [isSome_ite]
        refine ite2 (fun c => ?_) fun c => ?_
        · have nin : s.2.2 ∉ ks1 := of_decide_eq_false (by simpa using c)
          have k1 := B1.len
          have B2 : RcB T p (ks1 ++ [s.2.2]) (td1 ++ [s.2.2]) := by
            refine ⟨List.mem_append.mpr (.inl B1.self), ?_, fun q hq => ?_, fun q hq => ?_, fun P hP st q hq => ?_⟩
            · rw [List.nodup_append]
              exact ⟨B1.nd, nod1 _, fun x hx y hy z => nin (by rw [List.mem_singleton.mp hy] at z; rw [← z]; exact hx)⟩
            · rcases List.mem_append.mp hq with z | z
              · exact B1.low q z
              · rw [List.mem_singleton.mp z]; exact hsn
            · rcases List.mem_append.mp hq with z | z
              · exact List.mem_append.mpr (.inl (B1.sub q z))
              · exact List.mem_append.mpr (.inr z)
            · rcases List.mem_append.mp hq with z | z
              · exact B1.ind P hP st q z
              · rw [List.mem_singleton.mp z]
                refine st b bn (B1.ind P hP st b bk1) s.2 ?_
                rw [l2]
                exact List.mem_map.mpr ⟨s, List.mem_of_getElem? hs, rfl⟩
          have k2 := B2.len
          rw [List.length_append, List.length_singleton] at k2
          refine ⟨_, rfl, _, rfl, a, _, rfl, dk_put ha2 nin (by omega) _, ?_⟩
          refine ⟨_, rfl, .inl ⟨rfl, _, SqL.of ((upd_ne ned.symm).trans hd2)⟩, _, rfl, d, _, _, rfl, rfl, (upd_ne ned.symm).trans hd2, ?_, ?_⟩
          · rw [List.length_map]
            refine small1000 ?_
            rw [List.length_append] at m30 lt
            omega
          · refine ⟨ks1 ++ [s.2.2], td1 ++ [s.2.2], _, _, _, rfl, ?_, ?_, ?_, B2, fun q hq no ne e he => ?_, fun r hr => ?_, List.mem_append.mpr (.inl bk1), ?_⟩
            · exact same_mut (same_mut sm1 h0a) h0d
            · rw [upd_ne ned, upd_same]
              refine congrArg _ (congrArg _ (dkv_ext fun q _ => ?_))
              by_cases e : q = s.2.2
              · rw [if_pos e]
              · rw [if_neg e]
            · rw [upd_same, List.map_append]; rfl
            · rcases List.mem_append.mp hq with z | z
              · exact List.mem_append.mpr (.inl (done1 q z (fun z => no (List.mem_append.mpr (.inl z))) ne e he))
              · exact absurd (List.mem_append.mpr (.inr z)) no
            · rw [tk] at hr
              rcases List.mem_append.mp hr with z | z
              · exact List.mem_append.mpr (.inl (seen r z))
              · rw [List.mem_singleton.mp z]; simp
            · rw [List.length_append, List.length_append, List.length_singleton]
              omega
        · have yin : s.2.2 ∈ ks1 := of_decide_eq_true (by simpa using c)
          refine ⟨ks1, td1, _, _, _, rfl, sm1, ha2, hd2, B1, done1, fun r hr => ?_, bk1, lt⟩
          rw [tk] at hr
          rcases List.mem_append.mp hr with z | z
          · exact seen r z
          · rw [List.mem_singleton.mp z]; exact yin
      · obtain ⟨ks1, td1, _, _, _, rfl, sm1, ha2, hd2, B1, done1, seen, bk1, lt⟩ := h
        rw [List.take_length] at seen
        refine ⟨_, lt, a, d, ks1, td1, _, _, _, rfl, sm1, h0a, h0d, ned, ha2, hd2, B1, fun q hq no e he => ?_, rfl, by omega⟩
        by_cases c : q = b
        · rw [c, l2] at he
          obtain ⟨s, hs, rfl⟩ := List.mem_map.mp he
          exact seen s hs
        · exact done1 q hq no c e he
    · have ne : td = [] := by
        cases td with
        | nil => rfl
        | cons a r => exact absurd (decide_eq_true (by simp)) c
      have keys : (dkv ks fun _ => V.bl true).map (·.1) = (ks.map fun k : Nat => (k : Int)).map Sum.inl := by unfold dkv; rw [List.map_map, List.map_map]; rfl
      refine ⟨_, rfl, a, _, _, rfl, .inl ha1, keys, by rw [List.length_map]; omega, fun ys l pm so hl => ?_⟩
      have ey : ys = (ys.map Int.toNat).map fun k : Nat => (k : Int) := by
        rw [List.map_map]
        have : ∀ y ∈ ys, ((fun k : Nat => (k : Int)) ∘ Int.toNat) y = y := fun y hy => by
          obtain ⟨k, _, rfl⟩ := List.mem_map.mp (pm.mem_iff.mp hy)
          rfl
        rw [List.map_congr_left this, List.map_id']
      have mem : ∀ q, q ∈ ys.map Int.toNat ↔ q ∈ ks := fun q => by
        constructor
        · intro h
          obtain ⟨y, hy, rfl⟩ := List.mem_map.mp h
          obtain ⟨k, hk, rfl⟩ := List.mem_map.mp (pm.mem_iff.mp hy)
          exact hk
        · intro h
          exact List.mem_map.mpr ⟨(q : Int), pm.mem_iff.mpr (List.mem_map.mpr ⟨q, h, rfl⟩), rfl⟩
      refine ⟨l, _, rfl, .inl ⟨SqL.of upd_same, fun l2 hl2 => q _ l2 (ys.map Int.toNat) (sm.trans ((same_new hl).trans (same_new hl2))) ?_ ?_ ⟨(mem p).mpr B.self, fun q hq => B.low q ((mem q).mp hq), fun q hq e he => (mem _).mpr (done q ((mem q).mp hq) (by rw [ne]; simp) e he), fun P hP st q hq => B.ind P hP st q ((mem q).mp hq)⟩⟩⟩
      · rw [upd_same, natV_ints, ← ey]
      · rw [List.length_map, pm.length_eq, List.length_map]; omega
/-- the places from which no full place can be come to -/
theorem dpAll_bools {H : Hp} : ∀ {ns : List Bool} {xs : List V}, DpAll K H xs (ns.map PyData.bool) → xs = ns.map V.bl
  | [], _, h => dpAll_nil h
  | n :: ns, _, h => by
    obtain ⟨x, r, rfl, h1, h2⟩ := dpAll_cons h
    rw [dp_bool h1, dpAll_bools h2]
    rfl
theorem fmB {α : Type} (t : α → Bool) (l : List α) : l.filterMap (fun x => some (PyData.bool (t x))) = (l.map t).map PyData.bool := by rw [fmS, List.map_map]; rfl
def spHopeful (K : PySem.W.Frag) : Sp := fun vs H Q _ => ∃ (v : V) (T : Trk), vs = [v] ∧ TrAt K H v T ∧ TrOk T ∧
  ∀ (H' : Hp) (a : Addr) (hs : List Nat), Same H H' → H' a = some (.tup (hs.map natV)) → hs.Nodup → (∀ p ∈ hs, p < T.length) → Closed (trOf T) (· ∈ hs) → (∀ L p, p < T.length → p ∉ hs → Sl (trOf T) L T.length p) → Q (.ref a) H'
def Good (T : Trk) (fs : List Nat) (p : Nat) : Prop := ∃ rs, Rch (trOf T) T.length p rs ∧ ∀ q ∈ rs, q ∉ fs
def Poor (T : Trk) (fs : List Nat) (p : Nat) : Prop := ∃ rs, Rch (trOf T) T.length p rs ∧ ∃ q ∈ rs, q ∈ fs
theorem in_nats {ns : List Nat} {i : Nat} : inV (.int (i : Int)) (ns.map natV) = decide (i ∈ ns) := in_ints
theorem sc_hopeful_places : FnScope ["track", "full", "found", "place", "goal"] ["track"] (defScope s_hopeful_places) := ⟨rfl, rfl, rfl, by decide +kernel, rfl, by decide +kernel, by decide +kernel⟩
theorem c_hopeful_places (F : Fx K mg) : C8.Cal P w K mg base 5 "hopeful_places" (spHopeful K) [] := by
  refine (F.cal (d := d_hopeful_places) (k := 4) 17 (j := 15) rfl rfl rfl sc_hopeful_places (fun _ _ _ _ _ _ us hl => match us, hl with | [_], _ => rfl) (fun vs H Q E h => ?_) (fun f cdv A outer s H vs Q E hr h => ?_))
  · obtain ⟨v, T, rfl, _⟩ := h; rfl
  · refine ⟨_, (pss_cons (ps_set (i := 1) sc_hopeful_places.nd rfl (Or.inr rfl) (C8.pe_c (c_full_places F) hr (by decide) (by rfl) (pa_cons (pv 0) pa_nil)))
      (pss_cons (ps_set (i := 2) sc_hopeful_places.nd rfl (Or.inl rfl) (pe_lst pa_nil))
      (pss_cons (ps_for PassesOwn.never rfl (pi_range1 (by rfl) F.range (pa_cons (fldK (K := K) rfl (pv 0) rfl) pa_nil)) (pg_name (i := 3) sc_hopeful_places.nd rfl (Or.inl rfl)) (pss_one (ps_if (pt_not (pt_val (pe_callB (anyL (K := K) rfl rfl) (by rfl) F.any (by decide +kernel) (pa_cons (pe_lc (own := [("goal", 4)]) (g := gName 4) rfl sc_hopeful_places.nd (piT (K := K) rfl (C8.pe_c (c_reached_from F) hr (by decide) (by rfl) (pa_cons (pv 0) (pa_cons (pv 3) pa_nil)))) (blkOk_by (own := [("goal", 4)]) (N := ["track", "full", "found", "place", "goal"]) (sc := defScope s_hopeful_places) (by decide +kernel)) (fun _ _ _ _ _ => (pg_name (i := 4) sc_hopeful_places.nd rfl (Or.inl rfl))) (fun _ _ _ _ _ => pts_nil) (fun _ _ _ _ _ => (pe_cmpR (inS (K := K) rfl) (pv 4) (pv 1) rfl))) pa_nil)))) (pss_one (ps_expr (pe_bm PySem.F.plainAttrs_list PySem.F.slot_list_append PySem.F.type_list_append mt_append (pv 2) (pa_cons (pv 3) pa_nil)))) pss_nil)))
      (pss_one (ps_ret (pe_callTy (tupOf (K := K) rfl) (by rfl) F.tuple (by decide +kernel) (pa_cons (pv 2) pa_nil))))))), ?_⟩
    obtain ⟨v, T, rfl, ht, ok, q⟩ := h
    have n12 := ok.few
    refine ⟨_, rfl, v, T, rfl, ht, ok, fun H1 fa fs sm1 hfa flow full => ?_⟩
    refine ⟨sz (by simp), fun a ha => ?_⟩
    obtain ⟨ta, tC, tdx, tfs, tv, t1, t2, t3, t4⟩ := tr_places F (TrAt.same (sm1.trans (same_new (o := .lst []) ha)) ht)
    refine ⟨_, rfl, ta, tC, tdx, tfs, _, tv, t1, t2, t3, t4, _, rfl, by omega, by omega, ?_⟩
    have nea : fa ≠ a := fun z => by rw [z, ha] at hfa; cases hfa
    refine for_it walk_range (fun i σ H2 => ∃ (hs : List Nat) (p3 p4 : Option V), σ = [some v, some (.ref fa), some (.ref a), p3, p4] ∧ Same H1 H2 ∧ H2 a = some (.lst (hs.map natV)) ∧ hs.length ≤ i ∧ hs.Nodup ∧ (∀ p ∈ hs, p < i ∧ Good T fs p) ∧ ∀ p, p < i → p ∉ hs → Poor T fs p)
      ⟨[], _, _, rfl, same_new ha, upd_same, Nat.le_refl _, List.nodup_nil, by simp, fun p hp => absurd hp (by omega)⟩ (fun _ _ _ _ _ => True.intro) (fun i x σ H2 H3 hi h y => ?_) fun σ H2 h => ?_
    · obtain ⟨rfl, rfl⟩ := y
      obtain ⟨hs, p3, p4, rfl, sm2, ha2, hl, nd, good, poor⟩ := h
      have hi : i < T.length := by omega
      have ez : ((0 : Int) + (i : Nat)) = (i : Int) := by omega
      show tIfS _ _ _ _ [some v, some (.ref fa), some (.ref a), some (.int ((0 : Int) + (i : Nat))), p4] H3
      rw [ez]
      refine ⟨_, rfl, _, rfl, v, T, i, rfl, TrAt.same (sm1.trans sm2) ht, ok, hi, fun H4 ra rs sm4 hra r12 R => ?_⟩
      refine lcT (K := K) (enc := natD) (dp_natsT (SqT.of hra)) (fun q => some (.bool (decide (q ∈ fs)))) (by omega) (fun q d e => by cases e; exact .bl _) (fun q x H5 hq sm5 dx => ?_) fun D H5 xs hD sm5 hx dx => ?_
      · obtain rfl := dp_int dx
        refine lct_name rfl fun Qy qy => ?_
        refine ⟨_, rfl, _, rfl, fa, _, rfl, .inr (SqT.of (sm5 _ _ (sm4 _ _ (sm2 _ _ hfa)))), rfl, flat_ints, ?_⟩
        rw [in_nats]
        exact qy _ _ (Same.refl _) (.bl _)
      · rw [fmB] at dx
        obtain rfl := dpAll_bools dx
        refine ⟨D, _, rfl, SqL.of hx, ?_⟩
        have sm35 : Same H3 H5 := sm4.trans sm5
        refine ⟨_, rfl, ite2 (fun c => ?_) fun c => ?_⟩
        · have g : Good T fs i := ⟨rs, R, fun q hq z => by
            rw [Bool.not_eq_true', List.any_eq_false] at c
            exact c _ (List.mem_map.mpr ⟨q, hq, rfl⟩) (decide_eq_true z)⟩
          refine ⟨_, rfl, .inl ⟨rfl, _, SqL.of (sm35 _ _ ha2)⟩, _, rfl, a, _, _, rfl, rfl, sm35 _ _ ha2, by rw [List.length_map]; exact small1000 (by omega), ?_⟩
          refine ⟨hs ++ [i], _, _, rfl, ?_, by rw [upd_same, List.map_append]; rfl, by rw [List.length_append]; exact Nat.succ_le_succ hl, ?_, fun p hp => ?_, fun p hp no => ?_⟩
          · exact same_mut (sm2.trans sm35) ha
          · rw [List.nodup_append]
            exact ⟨nd, nod1 _, fun x hx y hy z => by
              rw [List.mem_singleton.mp hy] at z
              have := (good x hx).1
              omega⟩
          · rcases List.mem_append.mp hp with z | z
            · exact ⟨Nat.lt_succ_of_lt (good p z).1, (good p z).2⟩
            · rw [List.mem_singleton.mp z]; exact ⟨Nat.lt_succ_self _, g⟩
          · have : p ≠ i := fun z => no (by rw [z]; simp)
            exact poor p (by omega) fun z => no (List.mem_append.mpr (.inl z))
        · have g : Poor T fs i := ⟨rs, R, by
            rw [Bool.not_eq_true', Bool.not_eq_false, List.any_eq_true] at c
            obtain ⟨b, hb, e⟩ := c
            obtain ⟨q, hq, rfl⟩ := List.mem_map.mp hb
            exact ⟨q, hq, of_decide_eq_true e⟩⟩
          refine ⟨hs, _, _, rfl, sm2.trans sm35, sm35 _ _ ha2, by omega, nd, fun p hp => ⟨Nat.lt_succ_of_lt (good p hp).1, (good p hp).2⟩, fun p hp no => ?_⟩
          by_cases e : p = i
          · rw [e]; exact g
          · exact poor p (by omega) no
    · obtain ⟨hs, p3, p4, rfl, sm2, ha2, hl, nd, good, poor⟩ := h
      refine ⟨_, rfl, a, _, rfl, .inl ⟨SqL.of ha2, fun l hl => ?_⟩⟩
      have n1 : (((T.length : Nat) : Int) - 0).toNat = T.length := by omega
      have wf := ok.wf
      refine q _ l hs (sm1.trans (sm2.trans (same_new hl))) upd_same nd (fun p hp => ?_) (fun p hp e he => ?_) fun L p hp no => ?_
      · have := (good p hp).1; omega
      · obtain ⟨hpi, rs, R, ng⟩ := good p hp
        have ers : e.2 ∈ rs := R.cl p R.self e he
        have en := R.low _ ers
        apply Classical.byContradiction
        intro no
        obtain ⟨rs2, R2, q, hq, hf⟩ := poor e.2 (by omega) no
        exact ng q (R2.ind (· ∈ rs) ers (fun q _ hq e he => R.cl q hq e he) q hq) hf
      · obtain ⟨rs, R, q, hq, hf⟩ := poor p (by omega) no
        have sq : Sl (trOf T) L T.length q := ⟨fun p => decide (p ∈ fs) = true, _, full_slope wf (F := fun g => decide (g ∈ fs)) (fun p hp => flow p (of_decide_eq_true hp)) (fun p hp => full p (of_decide_eq_true hp)), decide_eq_true hf⟩
        exact R.ind (fun q => Sl (trOf T) L T.length q → Sl (trOf T) L T.length p) (fun h => h) (fun q hq h e he se => h (Sl.back wf hq he se)) q hq sq
end
end K68
set_option maxRecDepth 100000
set_option maxHeartbeats 400000
namespace K68
open PySem PySem.Spec PyProof.Rows L2
section
variable {P : Program} {w : World} {K : PySem.W.Frag} {mg : Str → Option Value} {base : Heap}
theorem pr_nil {α : Type} {enc : α → PyData} {H : Hp} {l : List α} {D : Addr} {xs : List V} (h : H D = some (.lst xs)) (d : DpAll K H xs (l.map enc)) : Dp K H (.ref D) (.list (l.map enc)) := .lst (SqL.of h) d
def spTold (K : PySem.W.Frag) : Sp := fun vs H Q _ => ∃ (v : V) (ps : Prs), vs = [v] ∧ Dp K H v (.list (ps.map prD)) ∧ ps.length ≤ 100 ∧
  ∀ H' v', Same H H' → Dp K H' v' (.list ((told ps).map prD)) → Q v' H'
theorem sc_told_pairs : FnScope ["pairs", "goal", "pay"] ["pairs"] (defScope s_told_pairs) := ⟨rfl, rfl, rfl, by decide +kernel, rfl, by decide +kernel, by decide +kernel⟩
theorem c_told_pairs (F : Fx K mg) : C8.Cal P w K mg base 1 "told_pairs" (spTold K) [] := by
  refine (F.cal (d := d_told_pairs) (k := 0) 18 (j := 16) rfl rfl rfl sc_told_pairs (fun _ _ _ _ _ _ us hl => match us, hl with | [_], _ => rfl) (fun vs H Q E h => ?_) (fun f cdv A outer s H vs Q E hr h => ?_))
  · obtain ⟨v, T, rfl, _⟩ := h; rfl
  · refine ⟨_, (pss_one (ps_ret (pe_lc (own := [("goal", 1), ("pay", 2)]) (g := gTup K 2 (gCons (gName 1) (gCons (gName 2) (gNil)))) rfl sc_told_pairs.nd (piL (K := K) rfl (pv 0)) (blkOk_by (own := [("goal", 1), ("pay", 2)]) (N := ["pairs", "goal", "pay"]) (sc := defScope s_told_pairs) (by decide +kernel)) (fun _ _ _ _ _ => (tupK (K := K) (n := 2) rfl rfl (pgs_cons (pg_name (i := 1) sc_told_pairs.nd rfl (Or.inl rfl)) (pgs_cons (pg_name (i := 2) sc_told_pairs.nd rfl (Or.inl rfl)) pgs_nil)))) (fun _ _ _ _ _ => (pts_one (PW.pt (pw_and (pt_cmpR op_notN (pv 1) pe_non (nomark _)) (pw_and1 (pt_cmpR op_gt (pv 1) pe_int (nomark _))))))) (fun _ _ _ _ _ => (pe_tup (pa_cons (pv 1) (pa_cons (pv 2) pa_nil))))))), ?_⟩
    obtain ⟨v, ps, rfl, hv, hz, q⟩ := h
    refine ⟨_, rfl, ?_⟩
    refine lcL (K := K) (enc := prD) hv (fun r => if decide (r.1 > 0) = true then some (prD r) else none) (by omega) (fun r d e => ?_) (fun r x H2 hr sm dx => ?_) fun D H2 xs hD sm hx dx => ?_
    · by_cases c : decide (r.1 > 0) = true
      · rw [if_pos c] at e; cases e; exact nl_pr _
      · rw [if_neg c] at e; cases e
    · obtain ⟨t, rfl, ht⟩ := pr_tup dx
      intro Qy Qn qy qn
      refine ⟨t, _, rfl, ht, rfl, _, _, rfl, _, _, rfl, rfl, rfl, ?_⟩
      refine ⟨_, rfl, rfl, _, rfl, ite2 (fun _ => ?_) fun c => absurd rfl c⟩
      refine ⟨_, rfl, _, _, rfl, rfl, _, rfl, ite2 (fun c => ?_) fun c => ?_⟩
      · refine ⟨_, rfl, _, rfl, sz (by simp), fun t2 ht2 => qy _ _ _ (if_pos c) (same_new ht2) ?_⟩
        exact .tup (SqT.of upd_same) (.cons (.int _) (.cons (.int _) .nil))
      · exact qn (if_neg c) _ (Same.refl _)
    · have e : ps.filterMap (fun r : Int × Nat => if decide (r.1 > 0) = true then some (prD r) else none) = (told ps).map prD := by
        unfold told
        clear dx hv hz q
        induction ps with
        | nil => rfl
        | cons r ps ih =>
          by_cases c : decide (r.1 > 0) = true
          · rw [List.filter_cons, if_pos c, List.map_cons, ← ih]; simp at c; simp [c]
          · rw [List.filter_cons, if_neg c, ← ih]; simp at c; simp [c]
      rw [e] at dx
      exact q H2 _ sm (pr_nil hx dx)
def spStake (K : PySem.W.Frag) : Sp := fun vs H Q _ => ∃ (v : V) (ps : Prs) (k : Int), vs = [v, .int k] ∧ Dp K H v (.list (ps.map prD)) ∧ ps.length ≤ 100 ∧ (∀ q ∈ ps, q.2 ≤ 9) ∧ Fit ps k ∧
  ∀ H' a, Same H H' → H' a = some (.tup ((ps.map (need k)).map V.int)) → Q (.ref a) H'
theorem sc_least_stake : FnScope ["pairs", "kept", "found", "goal", "pay"] ["pairs", "kept"] (defScope s_least_stake) := ⟨rfl, rfl, rfl, by decide +kernel, rfl, by decide +kernel, by decide +kernel⟩
theorem c_least_stake (F : Fx K mg) : C8.Cal P w K mg base 2 "least_stake" (spStake K) [] := by
  refine (F.cal (d := d_least_stake) (k := 1) 19 (j := 17) rfl rfl rfl sc_least_stake (fun _ _ _ _ _ _ us hl => match us, hl with | [_, _], _ => rfl) (fun vs H Q E h => ?_) (fun f cdv A outer s H vs Q E hr h => ?_))
  · obtain ⟨v, ps, k, rfl, _⟩ := h; rfl
  · refine ⟨_, (pss_cons (ps_set (i := 2) sc_least_stake.nd rfl (Or.inl rfl) (pe_lst pa_nil))
      (pss_cons (ps_for PassesOwn.never rfl (piL (K := K) rfl (pv 0)) (tupK (K := K) (n := 2) rfl rfl (pgs_cons (pg_name (i := 3) sc_least_stake.nd rfl (Or.inl rfl)) (pgs_cons (pg_name (i := 4) sc_least_stake.nd rfl (Or.inl rfl)) pgs_nil))) (pss_one (ps_expr (pe_bm PySem.F.plainAttrs_list PySem.F.slot_list_append PySem.F.type_list_append mt_append (pv 2) (pa_cons (pe_ifExp (PW.pt (pw_or (pt_cmpR op_isN (pv 3) pe_non (nomark _)) (pw_or1 (pt_cmpR op_le (pv 3) (pv 1) (nomark _))))) pe_int (C8.pe_c (c_rounded_up F) hr (by decide) (by rfl) (pa_cons (pe_op op_sub (pv 3) (pv 1)) (pa_cons (pv 4) pa_nil)))) pa_nil)))))
      (pss_one (ps_ret (pe_callTy (tupOf (K := K) rfl) (by rfl) F.tuple (by decide +kernel) (pa_cons (pv 2) pa_nil)))))), ?_⟩
    obtain ⟨v, ps, k, rfl, hv, hz, h9, fit, q⟩ := h
    refine ⟨sz (by simp), fun a ha => ?_⟩
    refine ⟨_, rfl, ?_⟩
    refine forL (K := K) (enc := prD) (Dp.same (same_new ha) hv) (fun i σ H2 => ∃ (p3 p4 : Option V), σ = [some v, some (.int k), some (.ref a), p3, p4] ∧ Same H H2 ∧ H2 a = some (.lst (((ps.take i).map (need k)).map V.int))) ⟨_, _, rfl, same_new ha, upd_same⟩ (fun i σ H2 h => ?_) (fun i r x σ H2 hi dx h => ?_) fun σ H2 h => ?_
    · obtain ⟨_, _, _, sm, _⟩ := h
      exact Dp.same sm hv
    · obtain ⟨_, _, rfl, sm, ha2⟩ := h
      obtain ⟨t, rfl, ht⟩ := pr_tup dx
      have hr' := List.mem_of_getElem? hi
      refine ⟨t, _, rfl, ht, rfl, _, _, rfl, _, _, rfl, rfl, ?_⟩
      refine ⟨_, rfl, .inl ⟨rfl, _, SqL.of ha2⟩, ?_⟩
      have fin : ∀ y, y = need k r → rAppend (.ref a) [.int y] H2 fun _ H1 => ∃ (p3 p4 : Option V), [some v, some (.int k), some (.ref a), some (.int r.1), some (.int (r.2 : Int))] = [some v, some (.int k), some (.ref a), p3, p4] ∧ Same H H1 ∧ H1 a = some (.lst (((ps.take (i + 1)).map (need k)).map V.int)) := fun y e => by
        refine ⟨a, _, _, rfl, rfl, ha2, ?_, _, _, rfl, same_mut sm ha, ?_⟩
        · rw [List.length_map, List.length_map, List.length_take]; exact small1000 (by omega)
        · rw [upd_same, e, List.take_succ, hi, List.map_append, List.map_append]; rfl
      by_cases c : r.1 ≤ k
      · refine ⟨_, rfl, rfl, _, rfl, iteF ?_⟩
        refine ⟨_, rfl, _, rfl, _, _, rfl, rfl, _, rfl, ?_⟩
        rw [decide_eq_true c]
        exact fin 0 (if_pos c).symm
      · refine ⟨_, rfl, rfl, _, rfl, iteF ?_⟩
        refine ⟨_, rfl, _, rfl, _, _, rfl, rfl, _, rfl, ?_⟩
        rw [decide_eq_false c]
        have hb : 0 < r.2 := Nat.pos_of_ne_zero fun z => c (fit r hr' z)
        have := h9 r hr'
        exact ⟨_, rfl, _, rfl, _, _, rfl, rfl, _, rfl, _, _, rfl, hb, by omega, fin _ (if_neg c).symm⟩
    · obtain ⟨_, _, rfl, sm, ha2⟩ := h
      rw [List.take_length] at ha2
      exact ⟨_, rfl, a, _, rfl, .inl ⟨SqL.of ha2, fun l hl => q _ l (sm.trans (same_new hl)) upd_same⟩⟩
def spTotal (K : PySem.W.Frag) : Sp := fun vs H Q _ => ∃ (v : V) (ps : Prs) (k : Int), vs = [v, .int k] ∧ Dp K H v (.list (ps.map prD)) ∧ ps.length ≤ 100 ∧ (∀ q ∈ ps, q.2 ≤ 9) ∧ Fit ps k ∧
  ∀ H', Same H H' → Q (.int (k + stk ps k)) H'
theorem sc_total : FnScope ["pairs", "kept"] ["pairs", "kept"] (defScope s_total) := ⟨rfl, rfl, rfl, by decide +kernel, rfl, by decide +kernel, by decide +kernel⟩
theorem c_total (F : Fx K mg) : C8.Cal P w K mg base 3 "total" (spTotal K) [] := by
  refine (F.cal (d := d_total) (k := 2) 20 (j := 18) rfl rfl rfl sc_total (fun _ _ _ _ _ _ us hl => match us, hl with | [_, _], _ => rfl) (fun vs H Q E h => ?_) (fun f cdv A outer s H vs Q E hr h => ?_))
  · obtain ⟨v, ps, k, rfl, _⟩ := h; rfl
  · refine ⟨_, (pss_one (ps_ret (pe_op op_add (pv 1) (pe_callB (sumT (K := K) rfl rfl) (by rfl) F.sum (by decide +kernel) (pa_cons (C8.pe_c (c_least_stake F) hr (by decide) (by rfl) (pa_cons (pv 0) (pa_cons (pv 1) pa_nil))) pa_nil))))), ?_⟩
    obtain ⟨v, ps, k, rfl, hv, hz, h9, fit, q⟩ := h
    refine ⟨_, rfl, _, rfl, _, rfl, v, ps, k, rfl, hv, hz, h9, fit, fun H2 a sm ha => ?_⟩
    exact ⟨a, _, rfl, SqT.of ha, _, _, rfl, rfl, q H2 sm⟩
def spMust (K : PySem.W.Frag) : Sp := fun vs H Q _ => ∃ (v : V) (ps : Prs), vs = [v] ∧ Dp K H v (.list (ps.map prD)) ∧ ps.length ≤ 100 ∧
  ∀ H' mk, Same H H' → 0 ≤ mk → Fit ps mk → (∀ k, 0 ≤ k → Fit ps k → mk ≤ k) → Q (.int mk) H'
theorem sc_must_keep : FnScope ["pairs", "goal", "pay"] ["pairs"] (defScope s_must_keep) := ⟨rfl, rfl, rfl, by decide +kernel, rfl, by decide +kernel, by decide +kernel⟩
theorem c_must_keep (F : Fx K mg) : C8.Cal P w K mg base 1 "must_keep" (spMust K) [] := by
  refine (F.cal (d := d_must_keep) (k := 0) 21 (j := 19) rfl rfl rfl sc_must_keep (fun _ _ _ _ _ _ us hl => match us, hl with | [_], _ => rfl) (fun vs H Q E h => ?_) (fun f cdv A outer s H vs Q E hr h => ?_))
  · obtain ⟨v, T, rfl, _⟩ := h; rfl
  · refine ⟨_, (pss_one (ps_ret (pe_callB (maxL (K := K) rfl rfl) (by rfl) F.max (by decide +kernel) (pa_cons (pe_op op_cat (pe_lst (pa_cons pe_int pa_nil)) (pe_lc (own := [("goal", 1), ("pay", 2)]) (g := gTup K 2 (gCons (gName 1) (gCons (gName 2) (gNil)))) rfl sc_must_keep.nd (piL (K := K) rfl (pv 0)) (blkOk_by (own := [("goal", 1), ("pay", 2)]) (N := ["pairs", "goal", "pay"]) (sc := defScope s_must_keep) (by decide +kernel)) (fun _ _ _ _ _ => (tupK (K := K) (n := 2) rfl rfl (pgs_cons (pg_name (i := 1) sc_must_keep.nd rfl (Or.inl rfl)) (pgs_cons (pg_name (i := 2) sc_must_keep.nd rfl (Or.inl rfl)) pgs_nil)))) (fun _ _ _ _ _ => (pts_one (pt_cmpR op_eq (pv 2) pe_int (nomark _)))) (fun _ _ _ _ _ => (pv 1)))) pa_nil)))), ?_⟩
    obtain ⟨v, ps, rfl, hv, hz, q⟩ := h
    refine ⟨sz (by simp), fun a ha => ?_⟩
    refine ⟨_, rfl, ?_⟩
    refine lcL (K := K) (enc := prD) (Dp.same (same_new ha) hv) (fun r => if r.2 = 0 then some (.int r.1) else none) (by omega) (fun r d e => ?_) (fun r x H2 hr sm dx => ?_) fun D H2 xs hD sm hx dx => ?_
    · by_cases c : r.2 = 0
      · rw [if_pos c] at e; cases e; exact .int _
      · rw [if_neg c] at e; cases e
    · obtain ⟨t, rfl, ht⟩ := pr_tup dx
      intro Qy Qn qy qn
      refine ⟨t, _, rfl, ht, rfl, _, _, rfl, _, _, rfl, rfl, rfl, ?_⟩
      refine ⟨_, rfl, rfl, _, rfl, ite2 (fun c => ?_) fun c => ?_⟩
      · exact ⟨_, rfl, qy _ _ _ (if_pos (by have := V.int.inj (of_decide_eq_true c); omega)) (Same.refl _) (.int _)⟩
      · exact qn (if_neg fun z => c (decide_eq_true (by rw [z]; rfl))) _ (Same.refl _)
    · have e : ps.filterMap (fun r : Int × Nat => if r.2 = 0 then some (PyData.int r.1) else none) = (ps.filterMap fun r : Int × Nat => if r.2 = 0 then some r.1 else none).map .int := by
        rw [List.map_filterMap]
        congr 1
        funext r
        by_cases c : r.2 = 0
        · rw [if_pos c, if_pos c]; rfl
        · rw [if_neg c, if_neg c]; rfl
      rw [e] at dx
      obtain rfl := dpAll_ints_inv dx
      generalize hns : (ps.filterMap fun r : Int × Nat => if r.2 = 0 then some r.1 else none) = ns at hx
      have mem : ∀ y, y ∈ ns ↔ ∃ r ∈ ps, r.2 = 0 ∧ r.1 = y := fun y => by
        rw [← hns, List.mem_filterMap]
        refine exists_congr fun r => and_congr_right fun _ => ?_
        by_cases c : r.2 = 0
        · rw [if_pos c]; exact ⟨fun h => ⟨c, Option.some.inj h⟩, fun h => by rw [h.2]⟩
        · rw [if_neg c]; exact ⟨(fun h => nomatch h), fun h => absurd h.1 c⟩
      have nl : ns.length ≤ 100 := by rw [← hns]; exact Nat.le_trans (List.length_filterMap_le _ _) hz
      refine ⟨a, D, [V.int 0], _, rfl, rfl, sm _ _ upd_same, hx, ?_, fun l hl => ?_⟩
      · rw [List.length_map]; exact sz (by simp; omega)
      · refine ⟨l, 0 :: ns, rfl, SqL.of upd_same, by simp, fun m hm hmax => ?_⟩
        refine q _ m ((same_new ha).trans (sm.trans (same_new hl))) (hmax 0 (by simp)) (fun r hr z => hmax _ (List.mem_cons_of_mem _ ((mem _).mpr ⟨r, hr, z, rfl⟩))) fun k hk fk => ?_
        rcases List.mem_cons.mp hm with rfl | hm
        · exact hk
        · obtain ⟨r, hr, z, rfl⟩ := (mem _).mp hm
          exact fk r hr z
end
end K68
set_option maxRecDepth 100000
set_option maxHeartbeats 400000
namespace K68
open PySem PySem.Spec PyProof.Rows L2
section
variable {P : Program} {w : World} {K : PySem.W.Frag} {mg : Str → Option Value} {base : Heap}
structure PrsOk (ps : Prs) : Prop where
  len : ps.length ≤ 100
  pay : ∀ q ∈ ps, q.2 ≤ 9
  big : ∀ q ∈ ps, q.1 ≤ 1000000
theorem PrsOk.told {ps : Prs} (h : PrsOk ps) : PrsOk (told ps) :=
  ⟨Nat.le_trans (List.length_filter_le _ _) h.len, fun q hq => h.pay q (List.mem_filter.mp hq).1, fun q hq => h.big q (List.mem_filter.mp hq).1⟩
def spBest (K : PySem.W.Frag) : Sp := fun vs H Q _ => ∃ (v : V) (ps : Prs) (L : Nat), vs = [v, .int (L : Int)] ∧ Dp K H v (.list (ps.map prD)) ∧ PrsOk ps ∧ L ≤ 100 ∧
  ∀ H' a m k, Same H H' → SqT K H' a [.int m, .int k] → (∀ c, m ≤ c ↔ EnP ps L c) → Q (.ref a) H'
theorem sc_best_within : FnScope ["pairs", "limit", "told", "low", "high", "middle", "goal", "pay", "kept"] ["pairs", "limit"] (defScope s_best_within) := ⟨rfl, rfl, rfl, by decide +kernel, rfl, by decide +kernel, by decide +kernel⟩
theorem c_best_within (F : Fx K mg) : C8.Cal P w K mg base 4 "best_within" (spBest K) [] := by
  refine (F.cal (d := d_best_within) (k := 3) 22 (j := 20) rfl rfl rfl sc_best_within (fun _ _ _ _ _ _ us hl => match us, hl with | [_, _], _ => rfl) (fun vs H Q E h => ?_) (fun f cdv A outer s H vs Q E hr h => ?_))
  · obtain ⟨v, ps, L, rfl, _⟩ := h; rfl
  · refine ⟨_, (pss_cons (ps_set (i := 2) sc_best_within.nd rfl (Or.inr rfl) (C8.pe_c (c_told_pairs F) hr (by decide) (by rfl) (pa_cons (pv 0) pa_nil)))
      (pss_cons (ps_set (i := 3) sc_best_within.nd rfl (Or.inl rfl) (C8.pe_c (c_must_keep F) hr (by decide) (by rfl) (pa_cons (pv 2) pa_nil)))
      (pss_cons (ps_set (i := 4) sc_best_within.nd rfl (Or.inl rfl) (pe_callB (maxL (K := K) rfl rfl) (by rfl) F.max (by decide +kernel) (pa_cons (pe_op op_cat (pe_lst (pa_cons (pv 3) pa_nil)) (pe_lc (own := [("goal", 6), ("pay", 7)]) (g := gTup K 2 (gCons (gName 6) (gCons (gName 7) (gNil)))) rfl sc_best_within.nd (piL (K := K) rfl (pv 2)) (blkOk_by (own := [("goal", 6), ("pay", 7)]) (N := ["pairs", "limit", "told", "low", "high", "middle", "goal", "pay", "kept"]) (sc := defScope s_best_within) (by decide +kernel)) (fun _ _ _ _ _ => (tupK (K := K) (n := 2) rfl rfl (pgs_cons (pg_name (i := 6) sc_best_within.nd rfl (Or.inl rfl)) (pgs_cons (pg_name (i := 7) sc_best_within.nd rfl (Or.inl rfl)) pgs_nil)))) (fun _ _ _ _ _ => pts_nil) (fun _ _ _ _ _ => (pv 6)))) pa_nil)))
      (pss_cons (ps_while PassesOwn.never (pt_cmpR op_lt (pv 3) (pv 4) (nomark _)) (pss_cons (ps_set (i := 5) sc_best_within.nd rfl (Or.inl rfl) (pe_op op_fdivN (pe_op op_add (pv 3) (pv 4)) pe_int))
      (pss_one (ps_if (pt_cmpR op_le (pe_callB (sumT (K := K) rfl rfl) (by rfl) F.sum (by decide +kernel) (pa_cons (C8.pe_c (c_least_stake F) hr (by decide) (by rfl) (pa_cons (pv 2) (pa_cons (pv 5) pa_nil))) pa_nil)) (pv 1) (nomark _)) (pss_one (ps_set (i := 4) sc_best_within.nd rfl (Or.inl rfl) (pv 5))) (pss_one (ps_set (i := 3) sc_best_within.nd rfl (Or.inl rfl) (pe_op op_add (pv 5) pe_int)))))))
      (pss_one (ps_ret (pe_callB (minP (K := K) rfl rfl hr.units) (by rfl) F.min (by decide +kernel) (pa_cons (pe_lc (own := [("kept", 8)]) (g := gName 8) rfl sc_best_within.nd (pi_range2 (by rfl) F.range (pa_cons (pv 3) (pa_cons (pe_op op_add (pe_op op_add (pv 3) (pv 1)) pe_int) pa_nil))) (blkOk_by (own := [("kept", 8)]) (N := ["pairs", "limit", "told", "low", "high", "middle", "goal", "pay", "kept"]) (sc := defScope s_best_within) (by decide +kernel)) (fun _ _ _ _ _ => (pg_name (i := 8) sc_best_within.nd rfl (Or.inl rfl))) (fun _ _ _ _ _ => pts_nil) (fun _ _ _ _ _ => (pe_tup (pa_cons (C8.pe_c (c_total F) hr (by decide) (by rfl) (pa_cons (pv 2) (pa_cons (pv 8) pa_nil))) (pa_cons (pv 8) pa_nil))))) pa_nil)))))))), ?_⟩
    obtain ⟨v, ps, L, rfl, hv, ok, hL, q⟩ := h
    refine ⟨_, rfl, v, ps, rfl, hv, ok.len, fun H1 tv sm1 htv => ?_⟩
    have okt := ok.told
    refine ⟨_, rfl, tv, told ps, rfl, htv, okt.len, fun H2 mk sm2 mk0 mkf mkl => ?_⟩
    refine ⟨_, rfl, sz (by simp), fun a ha => ?_⟩
    have htv2 := Dp.same (sm2.trans (same_new ha (o := .lst [.int mk]))) htv
    refine ⟨_, rfl, ?_⟩
    refine lcL (K := K) (enc := prD) htv2 (fun r => some (.int r.1)) (by have := okt.len; omega) (fun r d e => by cases e; exact .int _) (fun r x H3 hr sm dx => ?_) fun D H3 xs hD sm3 hx dx => ?_
    · obtain ⟨t, rfl, ht⟩ := pr_tup dx
      intro Qy Qn qy qn
      exact ⟨t, _, rfl, ht, rfl, _, _, rfl, _, _, rfl, rfl, rfl, iteT (B := Qn H3) ⟨_, rfl, qy _ _ _ rfl (Same.refl _) (.int _)⟩⟩
    have e : (told ps).filterMap (fun r : Int × Nat => some (PyData.int r.1)) = ((told ps).map (·.1)).map .int := by rw [fmS, List.map_map]; rfl
    rw [e] at dx
    obtain rfl := dpAll_ints_inv dx
    refine ⟨a, D, [V.int mk], _, rfl, rfl, sm3 _ _ upd_same, hx, ?_, fun l hl => ?_⟩
    · rw [List.length_map, List.length_map]; exact sz (by have := okt.len; simp; omega)
    refine ⟨l, mk :: (told ps).map (·.1), rfl, SqL.of upd_same, by simp, fun hi hhi hmax => ?_⟩
    have himk : mk ≤ hi := hmax mk (by simp)
    have hig : ∀ r ∈ told ps, r.1 ≤ hi := fun r hr => hmax _ (List.mem_cons_of_mem _ (List.mem_map.mpr ⟨r, hr, rfl⟩))
    have mkb : mk ≤ 1000000 := mkl _ (by omega) fun r hr _ => okt.big r hr
    have hib : hi ≤ 1000000 := by
      rcases List.mem_cons.mp hhi with rfl | h
      · exact mkb
      · obtain ⟨r, hr, rfl⟩ := List.mem_map.mp h
        exact okt.big r hr
    have sm4 : Same H1 (upd H3 l (.lst (V.int mk :: ((told ps).map (·.1)).map V.int))) := sm2.trans ((same_new ha).trans (sm3.trans (same_new hl)))
    refine ⟨fun m σ H => ∃ (low high : Int) (pm : Option V), σ = [some v, some (.int (L : Int)), some tv, some (.int low), some (.int high), pm, none, none, none] ∧ Same H1 H ∧ mk ≤ low ∧ low ≤ high ∧ high ≤ 1000000 ∧ stk (told ps) high ≤ L ∧ (∀ k, mk ≤ k → k < low → L < stk (told ps) k) ∧ m = (high - low).toNat, ⟨_, mk, hi, none, rfl, sm4, Int.le_refl _, himk, hib, by rw [stk_zero hig]; omega, fun k h1 h2 => by omega, rfl⟩, ?_⟩
    rintro m σ H5 ⟨low, high, pm, rfl, sm5, l1, l2, l3, l4, l5, rfl⟩
    have fit : ∀ k, mk ≤ k → Fit (told ps) k := fun k hk q hq z => Int.le_trans (mkf q hq z) hk
    refine ⟨_, rfl, _, rfl, _, _, rfl, rfl, _, rfl, ite2 (fun c => ?_) fun c => ?_⟩
    · have lt := of_decide_eq_true c
      refine ⟨fun σ' H' => ∃ m', m' < (high - low).toNat ∧ ∃ (low high : Int) (pm : Option V), σ' = [some v, some (.int (L : Int)), some tv, some (.int low), some (.int high), pm, none, none, none] ∧ Same H1 H' ∧ mk ≤ low ∧ low ≤ high ∧ high ≤ 1000000 ∧ stk (told ps) high ≤ L ∧ (∀ k, mk ≤ k → k < low → L < stk (told ps) k) ∧ m' = (high - low).toNat, fun _ _ h => h, ?_⟩
      refine ⟨_, rfl, _, rfl, _, _, rfl, rfl, _, _, rfl, rfl, ⟨by omega, by omega⟩, ?_⟩
      show gName 5 (V.int ((low + high).fdiv 2)) _ _ _
      have ef : (low + high).fdiv 2 = (low + high) / 2 := Int.fdiv_eq_ediv_of_nonneg _ (by omega)
      rw [ef]
      generalize hm : (low + high) / 2 = md
      have b1 : low ≤ md := by omega
      have b2 : md < high := by omega
      refine ⟨_, rfl, _, rfl, tv, told ps, md, rfl, Dp.same sm5 htv, okt.len, okt.pay, fit md (by omega), fun H6 sa sm6 hsa => ?_⟩
      refine ⟨sa, _, rfl, SqT.of hsa, _, rfl, _, _, rfl, rfl, _, rfl, ite2 (fun c => ?_) fun c => ?_⟩
      · exact ⟨_, rfl, _, by omega, low, md, _, rfl, sm5.trans sm6, l1, b1, by omega, of_decide_eq_true c, l5, rfl⟩
      · refine ⟨_, rfl, _, _, rfl, rfl, _, ?_, md + 1, high, _, rfl, sm5.trans sm6, by omega, by omega, l3, l4, fun k h1 h2 => ?_, rfl⟩
        · omega
        · have n : ¬ stk (told ps) md ≤ L := fun z => c (decide_eq_true z)
          have := stk_anti (fit k h1) (show k ≤ md by omega)
          omega
    · have eq : low = high := by
        have : ¬ low < high := fun z => c (decide_eq_true z)
        omega
      subst eq
      refine ⟨_, rfl, _, rfl, _, rfl, _, _, rfl, rfl, _, _, rfl, rfl, low, low + L + 1, rfl, ⟨by omega, by omega, by omega, by omega⟩, ?_⟩
      refine lcRg (K := K) (fun i => some (pairD (low + (i : Nat) + stk (told ps) (low + (i : Nat)), low + (i : Nat)))) (by omega) (fun a d e => by cases e; exact .tup (.cons (.int _) (.cons (.int _) .nil))) (fun i H6 hi sm6 => ?_) fun D6 H6 xs hD6 sm6 hx6 dx6 => ?_
      · refine lct_name rfl fun Qy qy => ?_
        refine ⟨_, rfl, _, rfl, tv, told ps, low + (i : Nat), rfl, Dp.same (sm5.trans sm6) htv, okt.len, okt.pay, fit _ (by omega), fun H7 sm7 => ?_⟩
        exact ⟨_, rfl, sz (by simp), fun t2 ht2 => qy _ _ (sm7.trans (same_new ht2)) (.tup (SqT.of upd_same) (.cons (.int _) (.cons (.int _) .nil)))⟩
      · have n1 : (low + L + 1 - low).toNat = L + 1 := by omega
        rw [fmS, n1] at dx6
        have e2 : (List.range (L + 1)).map (fun i => pairD (low + (i : Nat) + stk (told ps) (low + (i : Nat)), low + (i : Nat))) = ((List.range (L + 1)).map fun i : Nat => (low + (i : Int) + stk (told ps) (low + (i : Int)), low + (i : Int))).map pairD := by rw [List.map_map]; rfl
        rw [e2] at dx6
        refine ⟨D6, xs, _, rfl, SqL.of hx6, dx6, by simp, fun i x r hx hr hmin => ?_⟩
        obtain ⟨r', hr', dr⟩ := enc_get dx6 hx
        rw [hr] at hr'
        cases hr'
        rw [List.getElem?_map] at hr
        have hi : i < L + 1 := by
          apply Classical.byContradiction
          intro no
          rw [List.getElem?_eq_none (by rw [List.length_range]; omega)] at hr
          cases hr
        rw [List.getElem?_range hi] at hr
        cases hr
        obtain ⟨t, ys, rfl, ht, hy⟩ := dp_tup dr
        obtain ⟨x1, r1, rfl, h1, hy⟩ := dpAll_cons hy
        obtain ⟨x2, r2, rfl, h2, hy⟩ := dpAll_cons hy
        obtain rfl := dpAll_nil hy
        rw [dp_int h1, dp_int h2] at ht
        refine q H6 t _ _ (sm1.trans (sm5.trans sm6)) ht fun c => ?_
        rw [← told_en]
        refine best (ps := told ps) (L := L) (mk := mk) (low := low) (by omega) mk0 mkl mkf l1 l4 l5 ⟨low + (i : Nat), by omega, by omega, rfl⟩ (fun k k1 k2 => ?_) c
        have := hmin (k + stk (told ps) k, k) (List.mem_map.mpr ⟨(k - low).toNat, List.mem_range.mpr (by omega), by
          have : low + ((k - low).toNat : Int) = k := by omega
          rw [this]⟩)
        rcases this with h | h
        · exact Int.le_of_lt h
        · exact Int.le_of_eq h.1
def spNeeded (K : PySem.W.Frag) : Sp := fun vs H Q _ => ∃ (v : V) (ps : Prs) (L : Nat), vs = [v, .int (L : Int)] ∧ Dp K H v (.list (ps.map prD)) ∧ PrsOk ps ∧ L ≤ 100 ∧
  ∀ H' m, Same H H' → (∀ c, m ≤ c ↔ EnP ps L c) → Q (.int m) H'
theorem sc_needed_within : FnScope ["pairs", "limit"] ["pairs", "limit"] (defScope s_needed_within) := ⟨rfl, rfl, rfl, by decide +kernel, rfl, by decide +kernel, by decide +kernel⟩
theorem c_needed_within (F : Fx K mg) : C8.Cal P w K mg base 5 "needed_within" (spNeeded K) [] := by
  refine (F.cal (d := d_needed_within) (k := 4) 23 (j := 21) rfl rfl rfl sc_needed_within (fun _ _ _ _ _ _ us hl => match us, hl with | [_, _], _ => rfl) (fun vs H Q E h => ?_) (fun f cdv A outer s H vs Q E hr h => ?_))
  · obtain ⟨v, ps, L, rfl, _⟩ := h; rfl
  · refine ⟨_, (pss_one (ps_ret (pe_ix (ixT (K := K) rfl) (C8.pe_c (c_best_within F) hr (by decide) (by rfl) (pa_cons (pv 0) (pa_cons (pv 1) pa_nil))) pe_int (fun _ _ => rfl)))), ?_⟩
    obtain ⟨v, ps, L, rfl, hv, ok, hL, q⟩ := h
    refine ⟨_, rfl, _, rfl, v, ps, L, rfl, hv, ok, hL, fun H1 a m k sm ha en => ?_⟩
    exact ⟨a, _, _, _, rfl, rfl, ha, rfl, q H1 m sm en⟩
def spPairsWith (K : PySem.W.Frag) : Sp := fun vs H Q _ => ∃ (v : V) (T : Trk) (p : Nat) (l : List Arw) (ca fa : Addr) (ks fs : List Nat) (c : Nat → Int) (tf : Nat → V), vs = [v, .int (p : Int), .ref ca, .ref fa] ∧ TrAt K H v T ∧ T[p]? = some l ∧ l.length ≤ 100 ∧
  Rd H ca (.dK (dkv ks fun q => .int (c q))) ∧ Rd H fa (.dK (dkv fs tf)) ∧ (∀ s ∈ l, s.2.2 ∈ ks) ∧ ∀ H' v', Same H H' → Dp K H' v' (.list ((pairsOf c (fun g => decide (g ∈ fs)) (l.map (·.2))).map prD)) → Q v' H'
theorem sc_pairs_with : FnScope ["track", "place", "coins", "ahead", "steps", "letter", "pay", "goal"] ["track", "place", "coins", "ahead"] (defScope s_pairs_with) := ⟨rfl, rfl, rfl, by decide +kernel, rfl, by decide +kernel, by decide +kernel⟩
theorem c_pairs_with (F : Fx K mg) : C8.Cal P w K mg base 2 "pairs_with" (spPairsWith K) [] := by
  refine (F.cal (d := d_pairs_with) (k := 1) 24 (j := 22) rfl rfl rfl sc_pairs_with (fun _ _ _ _ _ _ us hl => match us, hl with | [_, _, _, _], _ => rfl) (fun vs H Q E h => ?_) (fun f cdv A outer s H vs Q E hr h => ?_))
  · obtain ⟨v, T, p, l, ca, fa, ks, fs, c, tf, rfl, _⟩ := h; rfl
  · refine ⟨_, (pss_cons (ps_set (i := 4) sc_pairs_with.nd rfl (Or.inl rfl) (C8.pe_c (c_steps_of F) hr (by decide) (by rfl) (pa_cons (pv 0) (pa_cons (pv 1) pa_nil))))
      (pss_one (ps_ret (pe_lc (own := [("letter", 5), ("pay", 6), ("goal", 7)]) (g := gTup K 3 (gCons (gName 5) (gCons (gName 6) (gCons (gName 7) (gNil))))) rfl sc_pairs_with.nd (piL (K := K) rfl (pv 4)) (blkOk_by (own := [("letter", 5), ("pay", 6), ("goal", 7)]) (N := ["track", "place", "coins", "ahead", "steps", "letter", "pay", "goal"]) (sc := defScope s_pairs_with) (by decide +kernel)) (fun _ _ _ _ _ => (tupK (K := K) (n := 3) rfl rfl (pgs_cons (pg_name (i := 5) sc_pairs_with.nd rfl (Or.inl rfl)) (pgs_cons (pg_name (i := 6) sc_pairs_with.nd rfl (Or.inl rfl)) (pgs_cons (pg_name (i := 7) sc_pairs_with.nd rfl (Or.inl rfl)) pgs_nil))))) (fun _ _ _ _ _ => pts_nil) (fun _ _ _ _ _ => (pe_tup (pa_cons (pe_op op_add (pe_dget (hu_of hr) (pv 2) (pv 7) (fun _ _ => rfl)) (pe_callTy call_int1 (by rfl) F.int (by decide +kernel) (pa_cons (pe_cmp (pc_dnotin (hu_of hr) (pv 7) (pv 3)) rfl) pa_nil))) (pa_cons (pv 6) pa_nil)))))))), ?_⟩
    obtain ⟨v, T, p, l, ca, fa, ks, fs, c, tf, rfl, ht, hl, hz, hca, hfa, inn, q⟩ := h
    refine ⟨_, rfl, _, rfl, v, T, p, l, H, rfl, Same.refl _, ht, hl, fun x dx => ?_⟩
    refine ⟨_, rfl, ?_⟩
    refine lcL (K := K) (enc := stepD) dx (fun s => some (prD (c s.2.2 + (if decide (s.2.2 ∈ fs) = true then 0 else 1), s.2.1))) (by omega) (fun s d e => by cases e; exact nl_pr _) (fun s x H3 hs sm dx => ?_) fun D H3 xs hD sm hx dx => ?_
    · obtain ⟨t, rfl, ht⟩ := step_tup dx
      intro Qy Qn qy qn
      refine ⟨t, _, rfl, ht, rfl, _, _, rfl, _, _, rfl, _, _, rfl, rfl, rfl, iteT (B := Qn H3) ?_⟩
      refine ⟨_, rfl, _, rfl, ca, _, rfl, dk_has (same_rd sm hca) (inn s hs), ?_⟩
      refine ⟨_, rfl, _, rfl, fa, _, rfl, dk_get (same_rd sm hfa), ?_⟩
      rw [isSome_ite]
      refine .inr ⟨_, rfl, _, _, rfl, rfl, ?_⟩
      refine ⟨_, rfl, sz (by simp), fun t2 ht2 => qy _ _ _ rfl (same_new ht2) ?_⟩
      have e : (if decide (s.2.2 ∈ fs) = true then (0 : Int) else 1) = if (!decide (s.2.2 ∈ fs)) = true then 1 else 0 := by cases decide (s.2.2 ∈ fs) <;> rfl
      rw [e]
      exact .tup (SqT.of upd_same) (.cons (.int _) (.cons (.int _) .nil))
    · rw [fmS] at dx
      refine q H3 _ sm ?_
      have e : (pairsOf c (fun g => decide (g ∈ fs)) (l.map (·.2))).map prD = l.map fun s => prD (c s.2.2 + (if decide (s.2.2 ∈ fs) = true then 0 else 1), s.2.1) := by unfold pairsOf; rw [List.map_map, List.map_map]; rfl
      rw [e]
      exact .lst (SqL.of hx) dx
def spRaised : Sp := fun vs H Q _ => ∃ (ca pa : Addr) (ks hs : List Nat) (c : Nat → Int) (hf : Nat → V) (k : Int), vs = [.ref ca, .ref pa, .int k] ∧ H ca = some (.dK (dkv ks fun q => .int (c q))) ∧ Rd H pa (.dK (dkv hs hf)) ∧ ks.Nodup ∧ ks.length ≤ 100 ∧
  ∀ H' a, Same H H' → H' a = some (.dK (dkv ks fun p => .int (upBy c hs k p))) → Q (.ref a) H'
theorem sc_raised_by : FnScope ["coins", "places", "more", "place"] ["coins", "places", "more"] (defScope s_raised_by) := ⟨rfl, rfl, rfl, by decide +kernel, rfl, by decide +kernel, by decide +kernel⟩
theorem c_raised_by (F : Fx K mg) : C8.Cal P w K mg base 1 "raised_by" spRaised [] := by
  refine (F.cal (d := d_raised_by) (k := 0) 25 (j := 23) rfl rfl rfl sc_raised_by (fun _ _ _ _ _ _ us hl => match us, hl with | [_, _, _], _ => rfl) (fun vs H Q E h => ?_) (fun f cdv A outer s H vs Q E hr h => ?_))
  · obtain ⟨ca, pa, ks, hs, c, hf, k, rfl, _⟩ := h; rfl
  · refine ⟨_, (pss_one (ps_ret (pe_lock (pe_dg (o := .dK []) (r := rPutK) (own := [("place", 3)]) (g := gName 3) okK putR_K rfl sc_raised_by.nd (pi_keys (pv 0)) (blkOk_by (own := [("place", 3)]) (N := ["coins", "places", "more", "place"]) (sc := defScope s_raised_by) (by decide +kernel)) (fun _ _ _ _ _ => (pg_name (i := 3) sc_raised_by.nd rfl (Or.inl rfl))) (fun _ _ _ _ _ => pts_nil) (fun _ _ _ _ _ => (pv 3)) (fun _ _ _ _ _ => (pe_op op_add (pe_dget (hu_of hr) (pv 0) (pv 3) (fun _ _ => rfl)) (pe_ifExp (pt_cmp (pc_din (hu_of hr) (pv 3) (pv 1)) rfl) (pv 2) pe_int))))))), ?_⟩
    obtain ⟨ca, pa, ks, hs, c, hf, k, rfl, hca, hpa, nd, hz, q⟩ := h
    refine ⟨ca, _, hca, True.intro, fun od => ?_⟩
    refine ⟨_, rfl, ca, od, rfl, .inl ⟨_, upd_same, fun D hD => ?_⟩⟩
    have rc : ∀ H2, Same (upd H ca (.frz od (.dK (dkv ks fun q => .int (c q))))) H2 → H2 ca = some (.frz od (.dK (dkv ks fun q => .int (c q)))) := fun H2 s => s _ _ upd_same
    have rp : Rd (upd H ca (.frz od (.dK (dkv ks fun q => .int (c q))))) pa (.dK (dkv hs hf)) := rd_lock hca (fun _ _ z => nomatch z) hpa
    refine dgW (ks := ks) (f := fun p => .int (upBy c hs k p)) walk_keys hD (fun _ => true) (dkv_len _ _) nd (by omega) (fun H2 s => rc H2 s) (fun i H x H' y => by rw [y.1]; exact Same.refl _) (fun i p x H2 H3 hp sm y => ?_) fun H2 sm hx => ?_
    · obtain ⟨rfl, k', v', hk, rfl⟩ := y
      obtain ⟨p', hp', rfl, _⟩ := dkv_at hk
      rw [hp] at hp'
      cases hp'
      intro Qy Qn qy qn
      refine ⟨rfl, iteT (B := Qn H3) ?_⟩
      refine ⟨_, rfl, ?_⟩
      refine ⟨_, rfl, _, rfl, ca, _, rfl, dk_has (.inr ⟨od, rc _ sm⟩) (List.mem_of_getElem? hp), ?_⟩
      refine ⟨_, rfl, _, rfl, pa, _, rfl, dk_get (same_rd sm rp), ?_⟩
      refine ⟨_, rfl, ?_⟩
      rw [isSome_ite]
      have e := qy rfl
      unfold upBy at e
      refine ite2 (fun d => ?_) fun d => ?_
      · refine ⟨_, rfl, _, _, rfl, rfl, ?_⟩
        have := e _ (Same.refl _)
        rw [if_pos (of_decide_eq_true d)] at this
        exact this
      · refine ⟨_, _, rfl, rfl, ?_⟩
        have := e _ (Same.refl _)
        rw [if_neg (fun z => d (decide_eq_true z))] at this
        exact this
    · have ne : D ≠ ca := fun z => by rw [z, upd_same] at hD; cases hD
      refine ⟨rc H2 sm, q _ D (unlock_same hca sm) ((upd_ne ne).trans ?_)⟩
      rw [hx, List.filter_eq_self.mpr fun _ _ => rfl]
def spByPlace (K : PySem.W.Frag) : Sp := fun vs H Q _ => ∃ (v : V) (T : Trk) (fa : Addr) (ks : List Nat) (f : Nat → V), vs = [v, .ref fa] ∧ TrAt K H v T ∧ TrOk T ∧ Rd H fa (.dK (dkv ks f)) ∧ (∀ p, f p = .non ∨ ∃ i, f p = .int i) ∧
  ∀ H' a, Same H H' → H' a = some (.tup (byF T.length fun p => if p ∈ ks then f p else .non)) → Q (.ref a) H'
def fD (f : Nat → V) (p : Nat) : PyData := match f p with | .int i => .int i | _ => .none
theorem dpAll_fD {H : Hp} {f : Nat → V} (hf : ∀ p, f p = .non ∨ ∃ i, f p = .int i) : ∀ {l : List Nat} {xs : List V}, DpAll K H xs (l.map (fD f)) → xs = l.map f
  | [], _, h => dpAll_nil h
  | a :: l, _, h => by
    obtain ⟨x, r, rfl, h1, h2⟩ := dpAll_cons h
    rw [dpAll_fD hf h2]
    unfold fD at h1
    rcases hf a with e | ⟨i, e⟩
    · rw [e] at h1
      rw [dp_none h1, List.map_cons, e]
    · rw [e] at h1
      rw [dp_int h1, List.map_cons, e]
theorem dp_fD {H : Hp} {f : Nat → V} (hf : ∀ p, f p = .non ∨ ∃ i, f p = .int i) (p : Nat) : Dp K H (f p) (fD f p) := by
  unfold fD
  rcases hf p with e | ⟨i, e⟩
  · rw [e]; exact .non
  · rw [e]; exact .int _
theorem nl_fD {f : Nat → V} (p : Nat) : NL (fD f p) := by
  unfold fD
  split
  · exact .int _
  · exact .non
theorem sc_by_place : FnScope ["track", "found", "place"] ["track", "found"] (defScope s_by_place) := ⟨rfl, rfl, rfl, by decide +kernel, rfl, by decide +kernel, by decide +kernel⟩
theorem c_by_place (F : Fx K mg) : C8.Cal P w K mg base 1 "by_place" (spByPlace K) [] := by
  refine (F.cal (d := d_by_place) (k := 0) 26 (j := 24) rfl rfl rfl sc_by_place (fun _ _ _ _ _ _ us hl => match us, hl with | [_, _], _ => rfl) (fun vs H Q E h => ?_) (fun f cdv A outer s H vs Q E hr h => ?_))
  · obtain ⟨v, T, fa, ks, f, rfl, _⟩ := h; rfl
  · refine ⟨_, (pss_one (ps_ret (pe_callTy (tupOf (K := K) rfl) (by rfl) F.tuple (by decide +kernel) (pa_cons (pe_lc (own := [("place", 2)]) (g := gName 2) rfl sc_by_place.nd (pi_range1 (by rfl) F.range (pa_cons (fldK (K := K) rfl (pv 0) rfl) pa_nil)) (blkOk_by (own := [("place", 2)]) (N := ["track", "found", "place"]) (sc := defScope s_by_place) (by decide +kernel)) (fun _ _ _ _ _ => (pg_name (i := 2) sc_by_place.nd rfl (Or.inl rfl))) (fun _ _ _ _ _ => pts_nil) (fun _ _ _ _ _ => (pe_dget2 (hu_of hr) (pv 1) (pv 2) pe_non ⟨rfl, rfl, rfl, rfl⟩))) pa_nil)))), ?_⟩
    obtain ⟨v, T, fa, ks, f, rfl, ht, ok, hfa, kinds, q⟩ := h
    have n12 := ok.few
    obtain ⟨ta, tC, tdx, tfs, tv, t1, t2, t3, t4⟩ := tr_places F ht
    refine ⟨_, rfl, ta, tC, tdx, tfs, _, tv, t1, t2, t3, t4, _, rfl, by omega, by omega, ?_⟩
    have kinds' : ∀ p, (if p ∈ ks then f p else V.non) = .non ∨ ∃ i, (if p ∈ ks then f p else V.non) = .int i := fun p => by
      by_cases c : p ∈ ks
      · rw [if_pos c]; exact kinds p
      · rw [if_neg c]; exact .inl rfl
    refine lcRg (K := K) (fun p => some (fD (fun p => if p ∈ ks then f p else .non) p)) (by omega) (fun a d e => by cases e; exact nl_fD _) (fun i H2 hi sm => ?_) fun D H2 xs hD sm hx dx => ?_
    · refine lct_name rfl fun Qy qy => ?_
      have ez : ((0 : Int) + (i : Nat)) = (i : Int) := by omega
      rw [ez]
      refine ⟨_, rfl, fa, rfl, .inl ⟨_, same_rd sm hfa⟩, _, rfl, _, dk_get (same_rd sm hfa), ?_⟩
      have e : (if i ∈ ks then some (f i) else none).getD V.non = if i ∈ ks then f i else .non := by
        by_cases c : i ∈ ks
        · rw [if_pos c, if_pos c]; rfl
        · rw [if_neg c, if_neg c]; rfl
      rw [e]
      exact qy _ _ (Same.refl _) (dp_fD kinds' i)
    · rw [fmS] at dx
      have e := dpAll_fD kinds' dx
      subst e
      exact ⟨D, _, rfl, .inl ⟨SqL.of hx, fun l hl => q _ l (sm.trans (same_new hl)) upd_same⟩⟩
end
end K68
set_option maxRecDepth 100000
set_option maxHeartbeats 400000
namespace K68
open PySem PySem.Spec PyProof.Rows L2
section
variable {P : Program} {w : World} {K : PySem.W.Frag} {mg : Str → Option Value} {base : Heap}
/-- coins at places -/
abbrev CoinK (ks : List Nat) (c : Nat → Int) : HO := .dK (dkv ks fun q => .int (c q))
structure CoOk (T : Trk) (ks : List Nat) (c : Nat → Int) : Prop where
  nd : ks.Nodup
  low : ∀ p ∈ ks, p < T.length
  cl : Closed (trOf T) (· ∈ ks)
  big : ∀ p ∈ ks, c p ≤ 900000
theorem CoOk.len {T : Trk} {ks : List Nat} {c : Nat → Int} (h : CoOk T ks c) : ks.length ≤ T.length := by
  have := h.nd.length_le_of_subset (fun q hq => List.mem_range.mpr (h.low q hq))
  rw [List.length_range] at this
  exact this
def spGain (K : PySem.W.Frag) : Sp := fun vs H Q _ => ∃ (v : V) (T : Trk) (ca : Addr) (ks : List Nat) (c : Nat → Int) (L : Nat), vs = [v, .ref ca, .int (L : Int)] ∧ TrAt K H v T ∧ TrOk T ∧ H ca = some (CoinK ks c) ∧ CoOk T ks c ∧ L ≤ 100 ∧
  ∀ H' a fs (t : Nat → Nat), Same H H' → H' a = some (.dK (dkv fs fun p => .int ((t p : Nat) : Int))) → Gain (trOf T) L ks c fs t → Q (.ref a) H'
def GaInv (H0 : Hp) (v : V) (T : Trk) (ca : Addr) (ks : List Nat) (c : Nat → Int) (L : Nat) (m : Nat) (σ : L2.St) (H : Hp) : Prop := ∃ (a : Addr) (fs : List Nat) (t : Nat → Nat) (τ : Nat) (g : Bool) (p6 p7 : Option V),
  σ = [some v, some (.ref ca), some (.int (L : Int)), some (.ref a), some (.int (τ : Int)), some (.bl g), p6, p7] ∧ Same H0 H ∧ H0 a = none ∧ H a = some (.dK (dkv fs fun p => .int ((t p : Nat) : Int))) ∧ fs.Nodup ∧ (∀ p ∈ fs, p ∈ ks) ∧ (∀ p ∈ fs, t p ≤ τ) ∧
  (∀ p ∈ fs, EnG (trOf T) L c (fun q => q ∈ fs ∧ t q < t p) p) ∧ (g = false → ∀ p ∈ ks, p ∉ fs → ¬ EnG (trOf T) L c (· ∈ fs) p) ∧ m = if g = true then (ks.length - fs.length) + 1 else 0
theorem sc_gaining_within : FnScope ["track", "coins", "limit", "found", "turn", "changed", "fresh", "place"] ["track", "coins", "limit"] (defScope s_gaining_within) := ⟨rfl, rfl, rfl, by decide +kernel, rfl, by decide +kernel, by decide +kernel⟩
theorem c_gaining_within (F : Fx K mg) : C8.Cal P w K mg base 6 "gaining_within" (spGain K) [] := by
  refine (F.cal (d := d_gaining_within) (k := 5) 28 (j := 26) rfl rfl rfl sc_gaining_within (fun _ _ _ _ _ _ us hl => match us, hl with | [_, _, _], _ => rfl) (fun vs H Q E h => ?_) (fun f cdv A outer s H vs Q E hr h => ?_))
  · obtain ⟨v, T, ca, ks, c, L, rfl, _⟩ := h; rfl
  · refine ⟨_, (pss_cons (ps_set (i := 3) sc_gaining_within.nd rfl (Or.inl rfl) pe_dnewK)
      (pss_cons (ps_set (i := 4) sc_gaining_within.nd rfl (Or.inl rfl) pe_int)
      (pss_cons (ps_set (i := 5) sc_gaining_within.nd rfl (Or.inl rfl) pe_bl)
      (pss_cons (ps_while PassesOwn.never (pt_val (pv 5)) (pss_cons (ps_aug (i := 4) sc_gaining_within.nd rfl (Or.inl rfl) pe_int ip_add)
      (pss_cons (ps_set (i := 6) sc_gaining_within.nd rfl (Or.inl rfl) (pe_lst pa_nil))
      (pss_cons (ps_lock (ps_for PassesOwn.never rfl (pi_keys (pv 1)) (pg_name (i := 7) sc_gaining_within.nd rfl (Or.inl rfl)) (pss_one (ps_if (PW.pt (pw_and (pt_cmp (pc_dnotin (hu_of hr) (pv 7) (pv 3)) rfl) (pw_and1 (pt_cmpR op_le (C8.pe_c (c_needed_within F) hr (by decide) (by rfl) (pa_cons (C8.pe_c (c_pairs_with F) hr (by decide) (by rfl) (pa_cons (pv 0) (pa_cons (pv 7) (pa_cons (pv 1) (pa_cons (pv 3) pa_nil))))) (pa_cons (pv 2) pa_nil))) (pe_dget (hu_of hr) (pv 1) (pv 7) (fun _ _ => rfl)) (nomark _))))) (pss_one (ps_expr (pe_bm PySem.F.plainAttrs_list PySem.F.slot_list_append PySem.F.type_list_append mt_append (pv 6) (pa_cons (pv 7) pa_nil)))) pss_nil))))
      (pss_cons (ps_for PassesOwn.never rfl (piL (K := K) rfl (pv 6)) (pg_name (i := 7) sc_gaining_within.nd rfl (Or.inl rfl)) (pss_one (ps_dput (hu_of hr) (pv 3) (pv 7) (pv 4) rfl)))
      (pss_one (ps_set (i := 5) sc_gaining_within.nd rfl (Or.inl rfl) (pe_cmpR op_gt (pe_callB (lenS (K := K) rfl) (by rfl) F.len (by decide +kernel) (pa_cons (pv 6) pa_nil)) pe_int (nomark _)))))))))
      (pss_one (ps_ret (pv 3))))))), ?_⟩
    obtain ⟨v, T, ca, ks, c, L, rfl, ht, ok, hca, co, hL, q⟩ := h
    have n12 := ok.few
    have kl := co.len
    intro a ha
    refine ⟨GaInv H v T ca ks c L, ⟨ks.length + 1, a, [], fun _ => 0, 0, true, none, none, rfl, same_new ha, ha, upd_same, List.nodup_nil, by simp, by simp, by simp, (fun z => by cases z), rfl⟩, ?_⟩
    rintro m σ H1 ⟨a, fs, t, τ, g, p6, p7, rfl, sm1, h0a, ha1, nd, sub, tl, tab, fix, rfl⟩
    have nca : ca ≠ a := fun z => by rw [z, h0a] at hca; cases hca
    have hca1 := sm1 _ _ hca
    have fl : fs.length ≤ ks.length := nd.length_le_of_subset sub
    refine ⟨_, rfl, _, rfl, ite2 (fun cg => ?_) fun cg => ?_⟩
    · rw [if_pos cg]
      refine ⟨fun σ' H' => ∃ m', m' < (ks.length - fs.length) + 1 ∧ GaInv H v T ca ks c L m' σ' H', fun _ _ h => h, ?_⟩
      refine ⟨_, rfl, _, _, rfl, rfl, ?_⟩
      refine ⟨sz (by simp), fun D hD => ?_⟩
      have nDa : D ≠ a := fun z => by rw [z, ha1] at hD; cases hD
      have nDc : D ≠ ca := fun z => by rw [z, hca1] at hD; cases hD
      refine ⟨ca, _, (upd_ne nDc.symm).trans hca1, True.intro, fun od => ?_⟩
      refine ⟨_, rfl, ca, od, rfl, .inl ⟨_, upd_same, ?_⟩⟩
      generalize hB : upd H1 ca (.frz od (CoinK ks c)) = B
      have hBD : B D = none := by rw [← hB, upd_ne nDc]; exact hD
      have hBc : B ca = some (.frz od (CoinK ks c)) := by rw [← hB, upd_same]
      have hBa : B a = some (.dK (dkv fs fun p => .int ((t p : Nat) : Int))) := by rw [← hB, upd_ne nca.symm]; exact ha1
      have hBt : TrAt K B v T := by rw [← hB]; exact TrAt.dk hca1 (TrAt.same sm1 ht)
      refine for_it walk_keys (fun i σ H2 => ∃ (fr : List Nat) (p7 : Option V), σ = [some v, some (.ref ca), some (.int (L : Int)), some (.ref a), some (.int ((τ : Int) + 1)), some (.bl g), some (.ref D), p7] ∧ Same B H2 ∧ H2 D = some (.lst (fr.map natV)) ∧ fr.Nodup ∧ fr.length ≤ i ∧
          (∀ p ∈ fr, p ∈ ks.take i ∧ p ∉ fs ∧ EnG (trOf T) L c (· ∈ fs) p) ∧ ∀ p ∈ ks.take i, p ∉ fs → EnG (trOf T) L c (· ∈ fs) p → p ∈ fr)
        ⟨[], _, rfl, ?_, (upd_ne nDc).trans upd_same, List.nodup_nil, Nat.le_refl _, by simp, by simp⟩ (fun i σ H2 _ h => ?_) (fun i x σ H2 H3 hi h y => ?_) fun σ H2 h => ?_
      · intro b u hb
        have nb : b ≠ D := fun z => by rw [z, hBD] at hb; cases hb
        by_cases e : b = ca
        · rw [e, upd_same, ← hb, e, hBc]
        · rw [upd_ne e, upd_ne nb]
          rw [← hB, upd_ne e] at hb
          exact hb
      · obtain ⟨fr, p7, _, sm2, _⟩ := h
        exact sm2 _ _ hBc
      · obtain ⟨rfl, k', v', hk, rfl⟩ := y
        obtain ⟨p, hp, rfl, _⟩ := dkv_at hk
        obtain ⟨fr, p7, rfl, sm2, hD2, fnd, fll, fin, fall⟩ := h
        have hpk := List.mem_of_getElem? hp
        have tk : ks.take (i + 1) = ks.take i ++ [p] := by rw [List.take_succ, hp]; rfl
        have ik : i < ks.length := (List.getElem?_eq_some_iff.mp hp).1
        have notin : p ∉ ks.take i := fun z => by
          have nt : (ks.take (i + 1)).Nodup := co.nd.sublist (List.take_sublist _ _)
          rw [tk, List.nodup_append] at nt
          exact nt.2.2 _ z _ (List.mem_singleton.mpr rfl) rfl
        have skip : ∀ H4, Same H3 H4 → ¬ (p ∉ fs ∧ EnG (trOf T) L c (· ∈ fs) p) → ∃ (fr : List Nat) (p7' : Option V), [some v, some (.ref ca), some (.int (L : Int)), some (.ref a), some (.int ((τ : Int) + 1)), some (.bl g), some (.ref D), some (.int (p : Int))] = [some v, some (.ref ca), some (.int (L : Int)), some (.ref a), some (.int ((τ : Int) + 1)), some (.bl g), some (.ref D), p7'] ∧ Same B H4 ∧ H4 D = some (.lst (fr.map natV)) ∧ fr.Nodup ∧ fr.length ≤ i + 1 ∧
            (∀ p ∈ fr, p ∈ ks.take (i + 1) ∧ p ∉ fs ∧ EnG (trOf T) L c (· ∈ fs) p) ∧ ∀ p ∈ ks.take (i + 1), p ∉ fs → EnG (trOf T) L c (· ∈ fs) p → p ∈ fr := fun H4 s4 no => by
          refine ⟨fr, _, rfl, sm2.trans s4, s4 _ _ hD2, fnd, by omega, fun r hr => ⟨?_, (fin r hr).2⟩, fun r hr a b => ?_⟩
          · rw [tk]; exact List.mem_append.mpr (.inl (fin r hr).1)
          · rw [tk] at hr
            rcases List.mem_append.mp hr with z | z
            · exact fall r z a b
            · rw [List.mem_singleton.mp z] at a b
              exact absurd ⟨a, b⟩ no
        refine ⟨_, rfl, _, rfl, a, _, rfl, dk_get (.inl (sm2 _ _ hBa)), _, rfl, ?_⟩
        rw [isSome_ite]
        refine ite2 (fun d => ?_) fun d => ?_
        · have nf : p ∉ fs := of_decide_eq_false (by simpa using d)
          obtain ⟨l, l1, l2, l3, l4, l5⟩ := ok.at (co.low p hpk)
          have inn : ∀ s ∈ l, s.2.2 ∈ ks := fun s hs => co.cl p hpk s.2 (by rw [l2]; exact List.mem_map.mpr ⟨s, hs, rfl⟩)
          refine ⟨_, rfl, _, rfl, _, rfl, _, rfl, v, T, p, l, ca, a, ks, fs, c, _, rfl, TrAt.same sm2 hBt, l1, by omega, .inr ⟨od, sm2 _ _ hBc⟩, .inl (sm2 _ _ hBa), inn, fun H4 pv sm4 dp => ?_⟩
          refine ⟨_, rfl, pv, _, L, rfl, dp, ⟨?_, fun r hr => ?_, fun r hr => ?_⟩, hL, fun H5 m sm5 en => ?_⟩
          · unfold pairsOf; rw [List.length_map, List.length_map]; omega
          · obtain ⟨e, he, rfl⟩ := List.mem_map.mp hr
            obtain ⟨s, hs, rfl⟩ := List.mem_map.mp he
            exact l4 s hs
          · obtain ⟨e, he, rfl⟩ := List.mem_map.mp hr
            obtain ⟨s, hs, rfl⟩ := List.mem_map.mp he
            have := co.big _ (inn s hs)
            show c s.2.2 + (if decide (s.2.2 ∈ fs) = true then 0 else 1) ≤ 1000000
            by_cases z : decide (s.2.2 ∈ fs) = true
            · rw [if_pos z]; omega
            · rw [if_neg z]; omega
          have s35 := sm4.trans sm5
          refine ⟨_, rfl, _, rfl, ca, _, rfl, dk_has (.inr ⟨od, s35 _ _ (sm2 _ _ hBc)⟩) hpk, _, _, rfl, rfl, _, rfl, ?_⟩
          have eq : m ≤ c p ↔ EnG (trOf T) L c (· ∈ fs) p := by
            rw [en, ← l2, en_pairs]
            have : (fun q => decide (q ∈ fs) = true) = (· ∈ fs) := funext fun q => propext decide_eq_true_iff
            rw [this]
          refine ite2 (fun d => ?_) fun d => ?_
          · have yes := eq.mp (of_decide_eq_true d)
            have hD5 := s35 _ _ hD2
            refine ⟨_, rfl, .inl ⟨rfl, _, SqL.of hD5⟩, _, rfl, D, _, _, rfl, rfl, hD5, by rw [List.length_map]; exact small1000 (by omega), ?_⟩
            refine ⟨fr ++ [p], _, rfl, same_mut (sm2.trans s35) hBD, by rw [upd_same, List.map_append]; rfl, ?_, by rw [List.length_append]; exact Nat.succ_le_succ fll, fun r hr => ?_, fun r hr a b => ?_⟩
            · rw [List.nodup_append]
              exact ⟨fnd, nod1 _, fun x hx y hy z => by
                rw [List.mem_singleton.mp hy] at z
                exact notin (by rw [← z]; exact (fin x hx).1)⟩
            · rcases List.mem_append.mp hr with z | z
              · exact ⟨by rw [tk]; exact List.mem_append.mpr (.inl (fin r z).1), (fin r z).2⟩
              · rw [List.mem_singleton.mp z]; exact ⟨by rw [tk]; simp, nf, yes⟩
            · rw [tk] at hr
              rcases List.mem_append.mp hr with z | z
              · exact List.mem_append.mpr (.inl (fall r z a b))
              · exact List.mem_append.mpr (.inr z)
          · exact skip _ s35 fun z => d (decide_eq_true (eq.mpr z.2))
        · exact skip _ (Same.refl _) fun z => d (by simpa using z.1)
      · obtain ⟨fr, p7, rfl, sm2, hD2, fnd, fll, fin, fall⟩ := h
        rw [dkv_len, List.take_length] at *
        refine ⟨sm2 _ _ hBc, ?_⟩
        have sm3 : Same H1 (upd H2 ca (CoinK ks c)) := unlock_same hca1 (by rw [hB]; exact sm2)
        have hD3 : upd H2 ca (CoinK ks c) D = some (.lst (fr.map natV)) := (upd_ne nDc).trans hD2
        generalize upd H2 ca (CoinK ks c) = H3 at sm3 hD3
        have dis : ∀ p ∈ fr, p ∉ fs := fun p hp => (fin p hp).2.1
        refine ⟨_, rfl, ?_⟩
        refine forL (K := K) (enc := natD) (dp_nats (SqL.of hD3)) (fun i σ H => ∃ (p7 : Option V), σ = [some v, some (.ref ca), some (.int (L : Int)), some (.ref a), some (.int ((τ : Int) + 1)), some (.bl g), some (.ref D), p7] ∧ SameX a H3 H ∧
            H a = some (.dK (dkv (fs ++ fr.take i) fun p => .int ((if p ∈ fr.take i then τ + 1 else t p : Nat) : Int))))
          ⟨_, rfl, SameX.refl, ?_⟩ (fun i σ H h => ?_) (fun i p x σ H hp dx h => ?_) fun σ H h => ?_
        · rw [sm3 _ _ ha1, List.take_zero, List.append_nil]
          refine congrArg _ (congrArg _ (dkv_ext fun p _ => ?_))
          rw [if_neg (by simp)]
        · obtain ⟨p7, _, sx, _⟩ := h
          exact dp_nats (SqL.of (sx _ _ nDa hD3))
        · obtain rfl := dp_int dx
          obtain ⟨p7, rfl, sx, ha4⟩ := h
          have tk : fr.take (i + 1) = fr.take i ++ [p] := by rw [List.take_succ, hp]; rfl
          have notin : p ∉ fr.take i := fun z => by
            have nt : (fr.take (i + 1)).Nodup := fnd.sublist (List.take_sublist _ _)
            rw [tk, List.nodup_append] at nt
            exact nt.2.2 _ z _ (List.mem_singleton.mpr rfl) rfl
          have nf : p ∉ fs ++ fr.take i := fun z => (List.mem_append.mp z).elim (dis p (List.mem_of_getElem? hp)) notin
          refine ⟨_, rfl, _, rfl, _, rfl, a, _, rfl, dk_put ha4 nf ?_ _, _, rfl, sx.put, ?_⟩
          · rw [List.length_append, List.length_take]; omega
          · rw [upd_same, tk, ← List.append_assoc]
            refine congrArg _ (congrArg _ (dkv_ext fun r hr => ?_))
            by_cases e : r = p
            · rw [if_pos e, if_pos (by rw [e]; simp)]; rfl
            · rw [if_neg e]
              by_cases e2 : r ∈ fr.take i
              · rw [if_pos e2, if_pos (List.mem_append.mpr (.inl e2))]
              · rw [if_neg e2, if_neg fun z => (List.mem_append.mp z).elim e2 fun z => e (List.mem_singleton.mp z)]
        · obtain ⟨p7, rfl, sx, ha4⟩ := h
          rw [List.take_length] at ha4
          refine ⟨_, rfl, D, _, rfl, .inl (SqL.of (sx _ _ nDa hD3)), _, _, rfl, rfl, ?_⟩
          have fsub : ∀ p ∈ fs ++ fr, p ∈ ks := fun p hp => (List.mem_append.mp hp).elim (sub p) fun z => (fin p z).1
          have fnd2 : (fs ++ fr).Nodup := by
            rw [List.nodup_append]
            exact ⟨nd, fnd, fun x hx y hy z => dis y hy (by rw [← z]; exact hx)⟩
          have fl2 := fnd2.length_le_of_subset fsub
          rw [List.length_append] at fl2
          refine ⟨_, ?_, a, fs ++ fr, fun p => if p ∈ fr then τ + 1 else t p, τ + 1, _, _, _, rfl, SameX.join (sm1.trans sm3) sx h0a, h0a, ha4, fnd2, fsub, fun p hp => ?_, fun p hp => ?_, fun z p hp no => ?_, rfl⟩
          · rw [List.length_append]
            by_cases z : fr = []
            · rw [z]; simp
            · have : 0 < fr.length := List.length_pos_iff.mpr z
              split <;> omega
          · show (if p ∈ fr then τ + 1 else t p) ≤ τ + 1
            rcases List.mem_append.mp hp with z | z
            · rw [if_neg fun y => dis p y z]
              have := tl p z
              omega
            · rw [if_pos z]; exact Nat.le_refl _
          · rcases List.mem_append.mp hp with z | z
            · have np : p ∉ fr := fun y => dis p y z
              refine (tab p z).mono fun e _ h => ⟨List.mem_append.mpr (.inl h.1), ?_⟩
              show (if e.2 ∈ fr then τ + 1 else t e.2) < if p ∈ fr then τ + 1 else t p
              rw [if_neg np, if_neg fun y => dis _ y h.1]
              exact h.2
            · refine (fin p z).2.2.mono fun e _ h => ⟨List.mem_append.mpr (.inl h), ?_⟩
              show (if e.2 ∈ fr then τ + 1 else t e.2) < if p ∈ fr then τ + 1 else t p
              rw [if_pos z, if_neg fun y => dis _ y h]
              have := tl _ h
              omega
          · have zf : fr = [] := by
              cases fr with
              | nil => rfl
              | cons b r =>
                have := of_decide_eq_false z
                simp at this
            subst zf
            rw [List.append_nil] at no ⊢
            exact fun en => absurd (fall p hp no en) (by simp)
    · have gf : g = false := Bool.eq_false_iff.mpr cg
      exact ⟨_, rfl, q _ a fs t sm1 ha1 ⟨nd, sub, fix gf, tab⟩⟩
/-- held places stay when raised by k -/
def Stay (T : Trk) (L : Nat) (ks hs : List Nat) (c : Nat → Int) (k : Int) (b : Bool) : Prop := ∃ fs t, Gain (trOf T) L ks (upBy c hs k) fs t ∧ (b = true → ∀ p ∈ hs, p ∉ fs)
def spStays (K : PySem.W.Frag) : Sp := fun vs H Q _ => ∃ (v : V) (T : Trk) (ca pa : Addr) (ks hs : List Nat) (c : Nat → Int) (hf : Nat → V) (k : Int) (L : Nat), vs = [v, .ref ca, .ref pa, .int k, .int (L : Int)] ∧ TrAt K H v T ∧ TrOk T ∧ H ca = some (CoinK ks c) ∧ H pa = some (.dK (dkv hs hf)) ∧ hs.length ≤ 100 ∧
  CoOk T ks (upBy c hs k) ∧ L ≤ 100 ∧ ∀ H' b, Same H H' → Stay T L ks hs c k b → Q (.bl b) H'
theorem sc_stays_within : FnScope ["track", "coins", "places", "more", "limit", "found", "place"] ["track", "coins", "places", "more", "limit"] (defScope s_stays_within) := ⟨rfl, rfl, rfl, by decide +kernel, rfl, by decide +kernel, by decide +kernel⟩
theorem c_stays_within (F : Fx K mg) : C8.Cal P w K mg base 7 "stays_within" (spStays K) [] := by
  refine (F.cal (d := d_stays_within) (k := 6) 29 (j := 27) rfl rfl rfl sc_stays_within (fun _ _ _ _ _ _ us hl => match us, hl with | [_, _, _, _, _], _ => rfl) (fun vs H Q E h => ?_) (fun f cdv A outer s H vs Q E hr h => ?_))
  · obtain ⟨v, T, ca, pa, ks, hs, c, hf, k, L, rfl, _⟩ := h; rfl
  · refine ⟨_, (pss_cons (ps_set (i := 5) sc_stays_within.nd rfl (Or.inr rfl) (C8.pe_c (c_gaining_within F) hr (by decide) (by rfl) (pa_cons (pv 0) (pa_cons (C8.pe_c (c_raised_by F) hr (by decide) (by rfl) (pa_cons (pv 1) (pa_cons (pv 2) (pa_cons (pv 3) pa_nil)))) (pa_cons (pv 4) pa_nil)))))
      (pss_one (ps_ret (pe_not (pe_callB (anyL (K := K) rfl rfl) (by rfl) F.any (by decide +kernel) (pa_cons (pe_lock (pe_lc (own := [("place", 6)]) (g := gName 6) rfl sc_stays_within.nd (pi_keys (pv 2)) (blkOk_by (own := [("place", 6)]) (N := ["track", "coins", "places", "more", "limit", "found", "place"]) (sc := defScope s_stays_within) (by decide +kernel)) (fun _ _ _ _ _ => (pg_name (i := 6) sc_stays_within.nd rfl (Or.inl rfl))) (fun _ _ _ _ _ => pts_nil) (fun _ _ _ _ _ => (pe_cmp (pc_din (hu_of hr) (pv 6) (pv 5)) rfl)))) pa_nil)))))), ?_⟩
    obtain ⟨v, T, ca, pa, ks, hs, c, hf, k, L, rfl, ht, ok, hca, hpa, hl, co, hL, q⟩ := h
    have n12 := ok.few
    have kl := co.len
    refine ⟨_, rfl, _, rfl, _, rfl, _, rfl, ca, pa, ks, hs, c, hf, k, rfl, hca, .inl hpa, co.nd, by omega, fun H1 ra sm1 hra => ?_⟩
    refine ⟨_, rfl, v, T, ra, ks, upBy c hs k, L, rfl, TrAt.same sm1 ht, ok, hra, co, hL, fun H2 fa fs t sm2 hfa G => ?_⟩
    have s2 := sm1.trans sm2
    refine ⟨pa, _, s2 _ _ hpa, True.intro, fun od => ?_⟩
    refine ⟨_, rfl, pa, od, rfl, .inl ⟨_, upd_same, ?_⟩⟩
    have rf : Rd (upd H2 pa (.frz od (.dK (dkv hs hf)))) fa (.dK (dkv fs fun p => .int ((t p : Nat) : Int))) := rd_lock (s2 _ _ hpa) (fun _ _ z => nomatch z) (.inl hfa)
    refine lcKeys (K := K) upd_same (fun p => some (.bool (decide (p ∈ fs)))) (by omega) (fun a d e => by cases e; exact .bl _) (fun p H3 hp sm3 => ?_) fun D H3 xs hD sm3 hx dx => ?_
    · refine lct_name rfl fun Qy qy => ?_
      refine ⟨_, rfl, _, rfl, fa, _, rfl, dk_get (same_rd sm3 rf), ?_⟩
      rw [isSome_ite]
      exact qy _ _ (Same.refl _) (.bl _)
    · rw [fmB] at dx
      obtain rfl := dpAll_bools dx
      have nD : D ≠ pa := fun z => by rw [z, upd_same] at hD; cases hD
      refine ⟨sm3 _ _ upd_same, D, _, rfl, SqL.of ((upd_ne nD).trans hx), ?_⟩
      refine ⟨_, rfl, q _ _ (s2.trans (unlock_same (s2 _ _ hpa) sm3)) ⟨fs, t, G, fun b p hp no => ?_⟩⟩
      rw [Bool.not_eq_true', List.any_eq_false] at b
      exact b _ (List.mem_map.mpr ⟨p, hp, rfl⟩) (decide_eq_true no)
def spGreat (K : PySem.W.Frag) : Sp := fun vs H Q _ => ∃ (v : V) (T : Trk) (ca pa : Addr) (ks hs : List Nat) (c : Nat → Int) (hf : Nat → V) (L : Nat) (M : Nat), vs = [v, .ref ca, .ref pa, .int (L : Int), .int (M : Int)] ∧ TrAt K H v T ∧ TrOk T ∧ H ca = some (CoinK ks c) ∧ H pa = some (.dK (dkv hs hf)) ∧ hs.length ≤ 100 ∧
  (∀ k : Int, k ≤ 2 * M + 2 → CoOk T ks (upBy c hs k)) ∧ L ≤ 100 ∧ M ≤ 100000 ∧ ∀ H' (k : Int), Same H H' → 0 ≤ k → k ≤ 2 * M + 2 → (k = 0 ∨ Stay T L ks hs c k true) → Q (.int k) H'
theorem sc_greatest_stay_within : FnScope ["track", "coins", "places", "limit", "most", "low", "high", "middle"] ["track", "coins", "places", "limit", "most"] (defScope s_greatest_stay_within) := ⟨rfl, rfl, rfl, by decide +kernel, rfl, by decide +kernel, by decide +kernel⟩
theorem c_greatest_stay_within (F : Fx K mg) : C8.Cal P w K mg base 8 "greatest_stay_within" (spGreat K) [] := by
  refine (F.cal (d := d_greatest_stay_within) (k := 7) 30 (j := 28) rfl rfl rfl sc_greatest_stay_within (fun _ _ _ _ _ _ us hl => match us, hl with | [_, _, _, _, _], _ => rfl) (fun vs H Q E h => ?_) (fun f cdv A outer s H vs Q E hr h => ?_))
  · obtain ⟨v, T, ca, pa, ks, hs, c, hf, L, M, rfl, _⟩ := h; rfl
  · refine ⟨_, (pss_cons (ps_set (i := 5) sc_greatest_stay_within.nd rfl (Or.inl rfl) pe_int)
      (pss_cons (ps_set (i := 6) sc_greatest_stay_within.nd rfl (Or.inl rfl) pe_int)
      (pss_cons (ps_while PassesOwn.never (PW.pt (pw_and (pt_cmpR op_le (pv 5) (pv 4) (nomark _)) (pw_and1 (pt_val (C8.pe_c (c_stays_within F) hr (by decide) (by rfl) (pa_cons (pv 0) (pa_cons (pv 1) (pa_cons (pv 2) (pa_cons (pv 6) (pa_cons (pv 3) pa_nil)))))))))) (pss_cons (ps_set (i := 5) sc_greatest_stay_within.nd rfl (Or.inl rfl) (pv 6))
      (pss_one (ps_set (i := 6) sc_greatest_stay_within.nd rfl (Or.inl rfl) (pe_op op_mul pe_int (pv 6))))))
      (pss_cons (ps_if (pt_cmpR op_gt (pv 5) (pv 4) (nomark _)) (pss_one (ps_ret (pv 5))) pss_nil)
      (pss_cons (ps_while PassesOwn.never (pt_cmpR op_gt (pe_op op_sub (pv 6) (pv 5)) pe_int (nomark _)) (pss_cons (ps_set (i := 7) sc_greatest_stay_within.nd rfl (Or.inl rfl) (pe_op op_fdivN (pe_op op_add (pv 5) (pv 6)) pe_int))
      (pss_one (ps_if (pt_val (C8.pe_c (c_stays_within F) hr (by decide) (by rfl) (pa_cons (pv 0) (pa_cons (pv 1) (pa_cons (pv 2) (pa_cons (pv 7) (pa_cons (pv 3) pa_nil))))))) (pss_one (ps_set (i := 5) sc_greatest_stay_within.nd rfl (Or.inl rfl) (pv 7))) (pss_one (ps_set (i := 6) sc_greatest_stay_within.nd rfl (Or.inl rfl) (pv 7)))))))
      (pss_one (ps_ret (pv 5)))))))), ?_⟩
    obtain ⟨v, T, ca, pa, ks, hs, c, hf, L, M, rfl, ht, ok, hca, hpa, hl, co, hL, hM, q⟩ := h
    refine ⟨fun m σ H1 => ∃ (low high : Int), σ = [some v, some (.ref ca), some (.ref pa), some (.int (L : Int)), some (.int (M : Int)), some (.int low), some (.int high), none] ∧ Same H H1 ∧ 0 ≤ low ∧ low < high ∧ high ≤ 2 * low + 1 ∧ low ≤ 2 * M + 2 ∧ (low ≤ M → high ≤ 2 * M + 2) ∧ (low = 0 ∨ Stay T L ks hs c low true) ∧ m = (2 * M + 2 - low).toNat, ⟨_, 0, 1, rfl, Same.refl _, by omega, by omega, by omega, by omega, fun _ => by omega, .inl rfl, rfl⟩, ?_⟩
    rintro m σ H1 ⟨low, high, rfl, sm1, l1, l2, l2b, l3, l3b, l4, rfl⟩
    refine ⟨_, rfl, _, rfl, _, _, rfl, rfl, _, rfl, ?_⟩
    refine ite2 (fun d => ?_) fun d => ?_
    · have lm := of_decide_eq_true d
      have hb := l3b lm
      refine ⟨_, rfl, _, rfl, _, rfl, _, rfl, _, rfl, v, T, ca, pa, ks, hs, c, hf, high, L, rfl, TrAt.same sm1 ht, ok, sm1 _ _ hca, sm1 _ _ hpa, hl, co high hb, hL, fun H2 b sm2 st => ?_⟩
      refine ⟨_, rfl, ?_⟩
      cases b with
      | true =>
        refine iteT ?_
        refine ⟨fun σ' H' => ∃ m', m' < (2 * M + 2 - low).toNat ∧ ∃ (low high : Int), σ' = [some v, some (.ref ca), some (.ref pa), some (.int (L : Int)), some (.int (M : Int)), some (.int low), some (.int high), none] ∧ Same H H' ∧ 0 ≤ low ∧ low < high ∧ high ≤ 2 * low + 1 ∧ low ≤ 2 * M + 2 ∧ (low ≤ M → high ≤ 2 * M + 2) ∧ (low = 0 ∨ Stay T L ks hs c low true) ∧ m' = (2 * M + 2 - low).toNat, fun _ _ h => h, ?_⟩
        exact ⟨_, rfl, _, rfl, _, _, rfl, rfl, .inl ⟨by omega, by omega⟩, _, by omega, high, 2 * high, rfl, sm1.trans sm2, by omega, by omega, by omega, hb, fun _ => by omega, .inr st, rfl⟩
      | false =>
        refine iteF ?_
        refine ⟨_, rfl, _, rfl, _, _, rfl, rfl, _, rfl, ite2 (fun c => absurd (of_decide_eq_true c) (by omega)) fun _ => ?_⟩
        refine ⟨fun m σ H1 => ∃ (low high : Int) (pm : Option V), σ = [some v, some (.ref ca), some (.ref pa), some (.int (L : Int)), some (.int (M : Int)), some (.int low), some (.int high), pm] ∧ Same H H1 ∧ 0 ≤ low ∧ low < high ∧ high ≤ 2 * M + 2 ∧ (low = 0 ∨ Stay T L ks hs c low true) ∧ m = (high - low).toNat, ⟨_, low, high, _, rfl, sm1.trans sm2, l1, l2, hb, l4, rfl⟩, ?_⟩
        clear l1 l2 l2b l3 l3b l4 lm hb st d
        rintro m σ H3 ⟨low, high, pm, rfl, sm3, l1, l2, l3, l4, rfl⟩
        refine ⟨_, rfl, _, rfl, _, _, rfl, rfl, _, _, rfl, rfl, _, rfl, ite2 (fun d => ?_) fun d => ?_⟩
        · have lt := of_decide_eq_true d
          refine ⟨fun σ' H' => ∃ m', m' < (high - low).toNat ∧ ∃ (low high : Int) (pm : Option V), σ' = [some v, some (.ref ca), some (.ref pa), some (.int (L : Int)), some (.int (M : Int)), some (.int low), some (.int high), pm] ∧ Same H H' ∧ 0 ≤ low ∧ low < high ∧ high ≤ 2 * M + 2 ∧ (low = 0 ∨ Stay T L ks hs c low true) ∧ m' = (high - low).toNat, fun _ _ h => h, ?_⟩
          refine ⟨_, rfl, _, rfl, _, _, rfl, rfl, _, _, rfl, rfl, ⟨by omega, by omega⟩, ?_⟩
          show gName 7 (V.int ((low + high).fdiv 2)) _ _ _
          have ef : (low + high).fdiv 2 = (low + high) / 2 := Int.fdiv_eq_ediv_of_nonneg _ (by omega)
          rw [ef]
          generalize hm : (low + high) / 2 = md
          have b1 : low < md := by omega
          have b2 : md < high := by omega
          refine ⟨_, rfl, _, rfl, _, rfl, _, rfl, _, rfl, v, T, ca, pa, ks, hs, c, hf, md, L, rfl, TrAt.same sm3 ht, ok, sm3 _ _ hca, sm3 _ _ hpa, hl, co md (by omega), hL, fun H4 b sm4 st => ?_⟩
          refine ⟨_, rfl, ?_⟩
          cases b with
          | true => exact iteT ⟨_, rfl, _, by omega, md, high, _, rfl, sm3.trans sm4, by omega, b2, l3, .inr st, rfl⟩
          | false => exact iteF ⟨_, rfl, _, by omega, low, md, _, rfl, sm3.trans sm4, l1, b1, by omega, l4, rfl⟩
        · exact ⟨_, rfl, q H3 low sm3 l1 (by omega) l4⟩
    · have gt : ¬ low ≤ M := fun z => d (decide_eq_true z)
      refine ⟨_, rfl, _, rfl, _, _, rfl, rfl, _, rfl, ite2 (fun _ => ?_) fun c => absurd (decide_eq_true (by omega)) c⟩
      exact ⟨_, rfl, q H1 low sm1 l1 l3 l4⟩
end
end K68
set_option maxRecDepth 100000
set_option maxHeartbeats 400000
namespace K68
open PySem PySem.Spec PyProof.Rows L2
section
variable {P : Program} {w : World} {K : PySem.W.Frag} {mg : Str → Option Value} {base : Heap}
/-- what is dropped: out of ks, above M, or with a way to such -/
def Drop (T : Trk) (ks : List Nat) (c : Nat → Int) (M : Int) (F : List Nat) : Prop := ∀ P : Nat → Prop, (∀ p, p < T.length → (p ∉ ks ∨ M < c p) → P p) → (∀ p, p < T.length → ∀ a ∈ trOf T p, P a.2 → P p) → ∀ p, p < T.length → p ∉ F → P p
structure NaB (T : Trk) (ks : List Nat) (c : Nat → Int) (M : Int) (F : List Nat) (i : Nat) : Prop where
  nd : F.Nodup
  sub : ∀ p ∈ F, p ∈ ks ∧ c p ≤ M
  cl : Closed (trOf T) (· ∈ F) ∨ F.length + i ≤ ks.length
  drop : Drop T ks c M F
theorem NaB.start {T : Trk} {ks : List Nat} {c : Nat → Int} {M : Int} (nd : ks.Nodup) : NaB T ks c M (ks.filter fun p => decide (c p ≤ M)) 0 := by
  refine ⟨nd.filter _, fun p hp => ?_, .inr (List.length_filter_le _ _), fun P h1 h2 p hp no => ?_⟩
  · rw [List.mem_filter, decide_eq_true_iff] at hp
    exact hp
  · refine h1 p hp ?_
    by_cases c1 : p ∈ ks
    · refine .inr ?_
      apply Classical.byContradiction
      intro le
      exact no (List.mem_filter.mpr ⟨c1, decide_eq_true (by omega)⟩)
    · exact .inl c1
theorem NaB.step {T : Trk} {ks : List Nat} {c : Nat → Int} {M : Int} {F : List Nat} {i : Nat} (ok : TrOk T) (low : ∀ p ∈ ks, p < T.length) (h : NaB T ks c M F i) : NaB T ks c M (naStep (trOf T) F) (i + 1) := by
  refine ⟨h.nd.filter _, fun p hp => h.sub p (naStep_sub hp), na_turn h.cl, fun P h1 h2 p hp no => ?_⟩
  by_cases c1 : p ∈ F
  · have : ¬ ((trOf T p).all fun a => decide (a.2 ∈ F)) = true := fun z => no (List.mem_filter.mpr ⟨c1, z⟩)
    rw [List.all_eq_true] at this
    apply Classical.byContradiction
    intro np
    refine this fun a ha => decide_eq_true ?_
    apply Classical.byContradiction
    intro nf
    exact np (h2 p hp a ha (h.drop P h1 h2 a.2 (ok.wf.goal p hp a ha) nf))
  · exact h.drop P h1 h2 p hp c1
def spNotAbove (K : PySem.W.Frag) : Sp := fun vs H Q _ => ∃ (v : V) (T : Trk) (ca : Addr) (ks : List Nat) (c : Nat → Int) (M : Int), vs = [v, .ref ca, .int M] ∧ TrAt K H v T ∧ TrOk T ∧ H ca = some (CoinK ks c) ∧ ks.Nodup ∧ (∀ p ∈ ks, p < T.length) ∧
  ∀ H' a ks', Same H H' → H' a = some (CoinK ks' c) → NaB T ks c M ks' ks.length → Q (.ref a) H'
theorem sc_not_above : FnScope ["track", "coins", "most", "found", "turn", "inner", "place", "number", "step"] ["track", "coins", "most"] (defScope s_not_above) := ⟨rfl, rfl, rfl, by decide +kernel, rfl, by decide +kernel, by decide +kernel⟩
theorem c_not_above (F : Fx K mg) : C8.Cal P w K mg base 2 "not_above" (spNotAbove K) [] := by
  refine (F.cal (d := d_not_above) (k := 1) 31 (j := 29) rfl rfl rfl sc_not_above (fun _ _ _ _ _ _ us hl => match us, hl with | [_, _, _], _ => rfl) (fun vs H Q E h => ?_) (fun f cdv A outer s H vs Q E hr h => ?_))
  · obtain ⟨v, T, ca, ks, c, M, rfl, _⟩ := h; rfl
  · refine ⟨_, (pss_cons (ps_lock (ps_setDg (i := 3) (o := .dK []) (r := rPutK) (own := [("place", 6), ("number", 7)]) (g := gTup K 2 (gCons (gName 6) (gCons (gName 7) (gNil)))) okK putR_K rfl sc_not_above.nd rfl rfl (swD rfl rfl rfl (by decide +kernel)) (pi_items (pv 1)) (blkOk_by (own := [("place", 6), ("number", 7)]) (N := ["track", "coins", "most", "found", "turn", "inner", "place", "number", "step"]) (sc := defScope s_not_above) (by decide +kernel)) (fun _ _ _ _ _ => (tupK (K := K) (n := 2) rfl rfl (pgs_cons (pg_name (i := 6) sc_not_above.nd rfl (Or.inl rfl)) (pgs_cons (pg_name (i := 7) sc_not_above.nd rfl (Or.inl rfl)) pgs_nil)))) (fun _ _ _ _ _ => (pts_one (pt_cmpR op_le (pv 7) (pv 2) (nomark _)))) (fun _ _ _ _ _ => (pv 6)) (fun _ _ _ _ _ => (pv 7))))
      (pss_cons (ps_for PassesOwn.never rfl (pi_range1 (by rfl) F.range (pa_cons (pe_callB call_lenD (by rfl) F.len (by decide +kernel) (pa_cons (pv 1) pa_nil)) pa_nil)) (pg_name (i := 4) sc_not_above.nd rfl (Or.inl rfl)) (pss_cons (ps_set (i := 5) sc_not_above.nd rfl (Or.inr rfl) (pe_lock (pe_dg (o := .dK []) (r := rPutK) (own := [("place", 6)]) (g := gName 6) okK putR_K rfl sc_not_above.nd (pi_keys (pv 3)) (blkOk_by (own := [("place", 6)]) (N := ["track", "coins", "most", "found", "turn", "inner", "place", "number", "step"]) (sc := defScope s_not_above) (by decide +kernel)) (fun _ _ _ _ _ => (pg_name (i := 6) sc_not_above.nd rfl (Or.inl rfl))) (fun _ _ _ _ _ => pts_nil) (fun _ _ _ _ _ => (pv 6)) (fun _ _ _ _ _ => pe_bl))))
      (pss_one (ps_lock (ps_setDg (i := 3) (o := .dK []) (r := rPutK) (own := [("place", 6)]) (g := gName 6) okK putR_K rfl sc_not_above.nd rfl rfl (swD rfl rfl rfl (by decide +kernel)) (pi_keys (pv 5)) (blkOk_by (own := [("place", 6)]) (N := ["track", "coins", "most", "found", "turn", "inner", "place", "number", "step"]) (sc := defScope s_not_above) (by decide +kernel)) (fun _ _ _ _ _ => (pg_name (i := 6) sc_not_above.nd rfl (Or.inl rfl))) (fun _ _ _ _ _ => (pts_one (pt_val (pe_callB (allL (K := K) rfl rfl) (by rfl) F.all (by decide +kernel) (pa_cons (pe_lc (own := [("step", 8)]) (g := gName 8) rfl sc_not_above.nd (piL (K := K) rfl (C8.pe_c (c_steps_of F) hr (by decide) (by rfl) (pa_cons (pv 0) (pa_cons (pv 6) pa_nil)))) (blkOk_by (own := [("step", 8)]) (N := ["track", "coins", "most", "found", "turn", "inner", "place", "number", "step"]) (sc := { kind := .function, names := [(".0", .local), ("place", .local), ("all", .globalImplicit), ("steps_of", .globalImplicit), ("coins", .cell), ("inner", .cell), ("track", .cell)], isGenerator := false, isCoroutine := false }) (by decide +kernel)) (fun _ _ _ _ _ => (pg_name (i := 8) sc_not_above.nd rfl (Or.inl rfl))) (fun _ _ _ _ _ => pts_nil) (fun _ _ _ _ _ => (pe_cmp (pc_din (hu_of hr) (pe_ix (ixT (K := K) rfl) (pv 8) pe_int (fun _ _ => rfl)) (pv 5)) rfl))) pa_nil))))) (fun _ _ _ _ _ => (pv 6)) (fun _ _ _ _ _ => (pe_dget (hu_of hr) (pv 1) (pv 6) (fun _ _ => rfl))))))))
      (pss_one (ps_ret (pv 3))))), ?_⟩
    obtain ⟨v, T, ca, ks, c, M, rfl, ht, ok, hca, nd, low, q⟩ := h
    have n12 := ok.few
    have kl : ks.length ≤ T.length := by
      have := nd.length_le_of_subset (fun q hq => List.mem_range.mpr (low q hq))
      rw [List.length_range] at this
      exact this
    refine ⟨ca, _, hca, True.intro, fun od => ?_⟩
    refine ⟨_, rfl, ca, od, _, rfl, upd_same, fun D hD => ?_⟩
    refine dgW (ks := ks) (f := fun p => .int (c p)) walk_items hD (fun p => decide (c p ≤ M)) (dkv_len _ _) nd (by omega) (fun H2 s => s _ _ upd_same) (fun i H x H' y => by obtain ⟨T', x', y', h1, h2, h3, _⟩ := y; rw [h3]; exact same_new h2) (fun i p x H2 H3 hp sm y => ?_) fun H2 sm hx => ?_
    · obtain ⟨t, x1, x2, rfl, h2, rfl, h4, h5⟩ := y
      have h4 : (dkv ks fun q => V.int (c q))[i]?.map (fun kv => kV kv.1) = some x1 := h4
      have h5 : (dkv ks fun q => V.int (c q))[i]?.map Prod.snd = some x2 := h5
      unfold dkv at h4 h5
      rw [List.getElem?_map, hp] at h4 h5
      cases h4
      cases h5
      intro Qy Qn qy qn
      refine ⟨t, _, rfl, SqT.of upd_same, rfl, _, _, rfl, _, _, rfl, rfl, rfl, ?_⟩
      refine ⟨_, rfl, _, rfl, _, _, rfl, rfl, _, rfl, ite2 (fun d => ?_) fun d => ?_⟩
      · exact ⟨_, rfl, _, rfl, qy d _ (Same.refl _)⟩
      · exact qn (Bool.eq_false_iff.mpr d) _ (Same.refl _)
    have nD : D ≠ ca := fun z => by rw [z, upd_same] at hD; cases hD
    refine ⟨sm _ _ upd_same, ?_⟩
    have sm1 : Same H (upd H2 ca (CoinK ks c)) := unlock_same hca sm
    have hD1 : upd H2 ca (CoinK ks c) D = some (CoinK (ks.filter fun p => decide (c p ≤ M)) c) := (upd_ne nD).trans hx
    generalize upd H2 ca (CoinK ks c) = H3 at sm1 hD1
    refine ⟨_, rfl, ca, _, rfl, sm1 _ _ hca, _, rfl, by omega, by rw [dkv_len]; omega, ?_⟩
    have en : (((dkv ks fun q => V.int (c q)).length : Nat) : Int).toNat = ks.length := by rw [dkv_len]; omega
    rw [en]
    refine for_it walk_range (fun i σ H4 => ∃ (a : Addr) (G : List Nat) (p4 p5 : Option V), σ = [some v, some (.ref ca), some (.int M), some (.ref a), p4, p5, none, none, none] ∧ Same H H4 ∧ H4 a = some (CoinK G c) ∧ NaB T ks c M G i)
      ⟨D, _, _, _, rfl, sm1, hD1, NaB.start nd⟩ (fun _ _ _ _ _ => True.intro) (fun i x σ H4 H5 hi h y => ?_) fun σ H4 h => ?_
    · obtain ⟨rfl, rfl⟩ := y
      obtain ⟨a, G, p4, p5, rfl, sm4, ha4, B⟩ := h
      have gl : G.length ≤ ks.length := B.nd.length_le_of_subset fun p hp => (B.sub p hp).1
      refine ⟨a, _, ha4, True.intro, fun od2 => ?_⟩
      refine ⟨_, rfl, a, od2, rfl, .inl ⟨_, upd_same, fun D5 hD5 => ?_⟩⟩
      refine dgW (ks := G) (f := fun _ => .bl true) walk_keys hD5 (fun _ => true) (dkv_len _ _) B.nd (by omega) (fun H2 s => s _ _ upd_same) (fun i H x H' y => by rw [y.1]; exact Same.refl _) (fun j p x H6 H7 hp sm y => ?_) fun H6 sm6 hx6 => ?_
      · obtain ⟨rfl, k', v', hk, rfl⟩ := y
        obtain ⟨p', hp', rfl, _⟩ := dkv_at hk
        rw [hp] at hp'
        cases hp'
        intro Qy Qn qy qn
        exact ⟨rfl, iteT (B := Qn H7) ⟨_, rfl, qy rfl _ (Same.refl _)⟩⟩
      have nD5 : D5 ≠ a := fun z => by rw [z, upd_same] at hD5; cases hD5
      refine ⟨sm6 _ _ upd_same, ?_⟩
      have sm7 : Same H5 (upd H6 a (CoinK G c)) := unlock_same ha4 sm6
      have hD7 : upd H6 a (CoinK G c) D5 = some (.dK (dkv G fun _ => .bl true)) := by
        rw [upd_ne nD5, hx6, List.filter_eq_self.mpr fun _ _ => rfl]
      generalize upd H6 a (CoinK G c) = H7 at sm7 hD7
      have sm47 := sm4.trans sm7
      refine ⟨D5, _, hD7, True.intro, fun od3 => ?_⟩
      refine ⟨_, rfl, D5, od3, rfl, .inl ⟨_, upd_same, fun D8 hD8 => ?_⟩⟩
      generalize hB : upd H7 D5 (.frz od3 (.dK (dkv G fun _ => .bl true))) = H8 at hD8
      have h8i : H8 D5 = some (.frz od3 (.dK (dkv G fun _ => .bl true))) := by rw [← hB, upd_same]
      have h8c : Rd H8 ca (CoinK ks c) := by rw [← hB]; exact rd_lock hD7 (fun _ _ z => nomatch z) (.inl (sm47 _ _ hca))
      have h8t : TrAt K H8 v T := by rw [← hB]; exact TrAt.dk hD7 (TrAt.same sm47 ht)
      refine dgW (ks := G) (f := fun p => .int (c p)) walk_keys hD8 (fun p => (trOf T p).all fun a => decide (a.2 ∈ G)) (dkv_len _ _) B.nd (by omega) (fun H2 s => s _ _ h8i) (fun i H x H' y => by rw [y.1]; exact Same.refl _) (fun j p x H9 H10 hp sm9 y => ?_) fun H9 sm9 hx9 => ?_
      · obtain ⟨rfl, k', v', hk, rfl⟩ := y
        obtain ⟨p', hp', rfl, _⟩ := dkv_at hk
        rw [hp] at hp'
        cases hp'
        have pG := List.mem_of_getElem? hp
        have pk := (B.sub p pG).1
        obtain ⟨l, l1, l2, l3, l4, l5⟩ := ok.at (low p pk)
        intro Qy Qn qy qn
        refine ⟨rfl, _, rfl, _, rfl, v, T, p, l, H10, rfl, Same.refl _, TrAt.same sm9 h8t, l1, fun x dx => ?_⟩
        refine lcL (K := K) (enc := stepD) dx (fun s => some (.bool (decide (s.2.2 ∈ G)))) (by omega) (fun s d e => by cases e; exact .bl _) (fun s x H11 hs sm11 dx => ?_) fun D12 H12 xs hD12 sm12 hx12 dx12 => ?_
        · refine lct_name rfl fun Qy qy => ?_
          obtain ⟨t, rfl, ht11⟩ := step_tup dx
          refine ⟨_, rfl, t, _, 2, _, rfl, rfl, ht11, rfl, ?_⟩
          refine ⟨_, rfl, D5, _, rfl, dk_get (.inr ⟨od3, sm11 _ _ (sm9 _ _ h8i)⟩), ?_⟩
          rw [isSome_ite]
          exact qy _ _ (Same.refl _) (.bl _)
        · rw [fmB] at dx12
          obtain rfl := dpAll_bools dx12
          refine ⟨D12, _, rfl, SqL.of hx12, _, rfl, ?_⟩
          have e : (l.map fun s => decide (s.2.2 ∈ G)).all id = (trOf T p).all fun a => decide (a.2 ∈ G) := by rw [l2, List.all_map, List.all_map]; rfl
          rw [e]
          refine ite2 (fun d => ?_) fun d => ?_
          · exact ⟨_, rfl, _, rfl, _, rfl, ca, _, rfl, dk_has (same_rd (sm9.trans sm12) h8c) pk, qy d _ sm12⟩
          · exact qn (Bool.eq_false_iff.mpr d) _ sm12
      · have nD8 : D8 ≠ D5 := fun z => by rw [z, h8i] at hD8; cases hD8
        refine ⟨sm9 _ _ h8i, D8, naStep (trOf T) G, _, _, rfl, ?_, (upd_ne nD8).trans hx9, B.step ok low⟩
        exact sm47.trans (unlock_same hD7 (by rw [hB]; exact sm9))
    · obtain ⟨a, G, p4, p5, rfl, sm4, ha4, B⟩ := h
      exact ⟨_, rfl, q H4 a G sm4 ha4 B⟩
end
end K68
set_option maxRecDepth 100000
set_option maxHeartbeats 400000
namespace K68
open PySem PySem.Spec PyProof.Rows L2
section
variable {P : Program} {w : World} {K : PySem.W.Frag} {mg : Str → Option Value} {base : Heap}
def spLbpw (K : PySem.W.Frag) : Sp := fun vs H Q _ => ∃ (v : V) (T : Trk) (L : Nat), vs = [v, .int (L : Int)] ∧ TrAt K H v T ∧ TrOk T ∧ L ≤ 100 ∧
  ∀ H' a ks c, Same H H' → H' a = some (CoinK ks c) → (∀ p, p < T.length → (p ∈ ks ↔ ¬ Sl (trOf T) L T.length p)) → Q (.ref a) H'
theorem sc_least_by_place_within : FnScope ["track", "limit", "coins", "most", "found", "held", "more", "place"] ["track", "limit"] (defScope s_least_by_place_within) := ⟨rfl, rfl, rfl, by decide +kernel, rfl, by decide +kernel, by decide +kernel⟩
theorem upBy_zero {c : Nat → Int} {hs : List Nat} : upBy c hs 0 = c := funext fun p => by unfold upBy; by_cases h : p ∈ hs <;> simp [h]
theorem c_least_by_place_within (F : Fx K mg) : C8.Cal P w K mg base 9 "least_by_place_within" (spLbpw K) [] := by
  refine (F.cal (d := d_least_by_place_within) (k := 8) 32 (j := 30) rfl rfl rfl sc_least_by_place_within (fun _ _ _ _ _ _ us hl => match us, hl with | [_, _], _ => rfl) (fun vs H Q E h => ?_) (fun f cdv A outer s H vs Q E hr h => ?_))
  · obtain ⟨v, T, L, rfl, _⟩ := h; rfl
  · refine ⟨_, (pss_cons (ps_setDg (i := 2) (o := .dK []) (r := rPutK) (own := [("place", 7)]) (g := gName 7) okK putR_K rfl sc_least_by_place_within.nd rfl rfl (swD rfl rfl rfl (by decide +kernel)) (piT (K := K) rfl (C8.pe_c (c_hopeful_places F) hr (by decide) (by rfl) (pa_cons (pv 0) pa_nil))) (blkOk_by (own := [("place", 7)]) (N := ["track", "limit", "coins", "most", "found", "held", "more", "place"]) (sc := defScope s_least_by_place_within) (by decide +kernel)) (fun _ _ _ _ _ => (pg_name (i := 7) sc_least_by_place_within.nd rfl (Or.inl rfl))) (fun _ _ _ _ _ => pts_nil) (fun _ _ _ _ _ => (pv 7)) (fun _ _ _ _ _ => pe_int))
      (pss_cons (ps_set (i := 3) sc_least_by_place_within.nd rfl (Or.inl rfl) (pe_op op_mul (pe_callB call_lenD (by rfl) F.len (by decide +kernel) (pa_cons (pv 2) pa_nil)) (pv 1)))
      (pss_one (ps_while PassesOwn.never (pt_val pe_bl) (pss_cons (ps_set (i := 4) sc_least_by_place_within.nd rfl (Or.inr rfl) (C8.pe_c (c_gaining_within F) hr (by decide) (by rfl) (pa_cons (pv 0) (pa_cons (pv 2) (pa_cons (pv 1) pa_nil)))))
      (pss_cons (ps_lock (ps_setDg (i := 5) (o := .dK []) (r := rPutK) (own := [("place", 7)]) (g := gName 7) okK putR_K rfl sc_least_by_place_within.nd rfl rfl (swD rfl rfl rfl (by decide +kernel)) (pi_keys (pv 2)) (blkOk_by (own := [("place", 7)]) (N := ["track", "limit", "coins", "most", "found", "held", "more", "place"]) (sc := defScope s_least_by_place_within) (by decide +kernel)) (fun _ _ _ _ _ => (pg_name (i := 7) sc_least_by_place_within.nd rfl (Or.inl rfl))) (fun _ _ _ _ _ => (pts_one (pt_cmp (pc_dnotin (hu_of hr) (pv 7) (pv 4)) rfl))) (fun _ _ _ _ _ => (pv 7)) (fun _ _ _ _ _ => pe_bl)))
      (pss_cons (ps_if (pt_cmpR op_eq (pe_callB call_lenD (by rfl) F.len (by decide +kernel) (pa_cons (pv 5) pa_nil)) pe_int (nomark _)) (pss_one (ps_ret (pv 2))) pss_nil)
      (pss_cons (ps_set (i := 6) sc_least_by_place_within.nd rfl (Or.inl rfl) (pe_op op_add (C8.pe_c (c_greatest_stay_within F) hr (by decide) (by rfl) (pa_cons (pv 0) (pa_cons (pv 2) (pa_cons (pv 5) (pa_cons (pv 1) (pa_cons (pv 3) pa_nil)))))) pe_int))
      (pss_one (ps_set (i := 2) sc_least_by_place_within.nd rfl (Or.inl rfl) (C8.pe_c (c_not_above F) hr (by decide) (by rfl) (pa_cons (pv 0) (pa_cons (C8.pe_c (c_raised_by F) hr (by decide) (by rfl) (pa_cons (pv 2) (pa_cons (pv 5) (pa_cons (pv 6) pa_nil)))) (pa_cons (pv 3) pa_nil)))))))))))))), ?_⟩
    obtain ⟨v, T, L, rfl, ht, ok, hL, q⟩ := h
    have n12 := ok.few
    refine ⟨_, rfl, v, T, rfl, ht, ok, fun H1 ha hs0 sm1 hha nd0 low0 cl0 sl0 => ?_⟩
    have l0 : hs0.length ≤ T.length := by
      have := nd0.length_le_of_subset (fun q hq => List.mem_range.mpr (low0 q hq))
      rw [List.length_range] at this
      exact this
    refine ⟨ha, rfl, ⟨_, SqT.of hha⟩, fun D hD => ?_⟩
    refine dgW (ks := hs0) (f := fun _ => .int 0) walk_tup hD (fun _ => true) (List.length_map _) nd0 (by omega) (fun H s => same_t s (SqT.of hha)) (fun i H x H' y => by rw [y.1]; exact Same.refl _) (fun i p x H2 H3 hp sm y => ?_) fun H2 sm2 hx => ?_
    · obtain ⟨rfl, hx⟩ := y
      obtain ⟨p', hp', rfl⟩ := natV_get hx
      rw [hp] at hp'
      cases hp'
      intro Qy Qn qy qn
      exact ⟨rfl, iteT (B := Qn H3) ⟨_, rfl, qy rfl _ (Same.refl _)⟩⟩
    have hx : H2 D = some (CoinK hs0 fun _ => 0) := by rw [hx, List.filter_eq_self.mpr fun _ _ => rfl]
    have sm02 := sm1.trans sm2
    generalize hn0 : hs0.length = n0 at l0
    generalize hM : L * n0 = M
    have M12 : M ≤ 1200 := by
      rw [← hM]
      exact Nat.mul_le_mul hL (Nat.le_trans l0 n12)
    have eM : ((L : Int) * (n0 : Int)) = (M : Int) := by rw [← hM, Int.natCast_mul]
    refine ⟨_, rfl, D, _, rfl, hx, _, rfl, _, _, rfl, rfl, .inr ⟨by omega, by omega⟩, ?_⟩
    have e1 : ((dkv hs0 fun q => V.int 0).length : Int) * (L : Int) = (M : Int) := by rw [dkv_len, hn0, Int.mul_comm, eM]
    show gName 3 (V.int (((dkv hs0 fun q => V.int 0).length : Int) * (L : Int))) _ _ _
    rw [e1]
    refine ⟨fun m σ H3 => ∃ (a : Addr) (ks : List Nat) (c : Nat → Int) (p4 p5 p6 : Option V), σ = [some v, some (.int (L : Int)), some (.ref a), some (.int (M : Int)), p4, p5, p6, none] ∧ Same H H3 ∧ H3 a = some (CoinK ks c) ∧ LInv (trOf T) L T.length n0 ks c ∧ m = room M c ks,
      ⟨_, D, hs0, fun _ => 0, _, _, _, rfl, sm02, hx, by rw [← hn0]; exact linv_start (by omega) nd0 low0 cl0 fun p hp no => sl0 L p hp no, rfl⟩, ?_⟩
    rintro m σ H3 ⟨a, ks, c, p4, p5, p6, rfl, sm3, ha3, I, rfl⟩
    have bd : ∀ p ∈ ks, 0 ≤ c p ∧ c p ≤ M := fun p hp => by have := I.bd p hp; rw [eM] at this; exact this
    have co : CoOk T ks c := ⟨I.nd, I.low, I.cl, fun p hp => by have := (bd p hp).2; omega⟩
    have kl := co.len
    refine ⟨_, rfl, iteT ?_⟩
    refine ⟨fun σ' H' => ∃ m', m' < room M c ks ∧ ∃ (a : Addr) (ks : List Nat) (c : Nat → Int) (p4 p5 p6 : Option V), σ' = [some v, some (.int (L : Int)), some (.ref a), some (.int (M : Int)), p4, p5, p6, none] ∧ Same H H' ∧ H' a = some (CoinK ks c) ∧ LInv (trOf T) L T.length n0 ks c ∧ m' = room M c ks, fun _ _ h => h, ?_⟩
    refine ⟨_, rfl, _, rfl, _, rfl, v, T, a, ks, c, L, rfl, TrAt.same sm3 ht, ok, ha3, co, hL, fun H4 fa fs t sm4 hfa G => ?_⟩
    have ha4 := sm4 _ _ ha3
    refine ⟨a, _, ha4, True.intro, fun od => ?_⟩
    refine ⟨_, rfl, a, od, rfl, .inl ⟨_, upd_same, fun D5 hD5 => ?_⟩⟩
    have rf : Rd (upd H4 a (.frz od (CoinK ks c))) fa (.dK (dkv fs fun p => .int ((t p : Nat) : Int))) := rd_lock ha4 (fun _ _ z => nomatch z) (.inl hfa)
    refine dgW (ks := ks) (f := fun _ => .bl true) walk_keys hD5 (fun p => !decide (p ∈ fs)) (dkv_len _ _) I.nd (by omega) (fun H2 s => s _ _ upd_same) (fun i H x H' y => by rw [y.1]; exact Same.refl _) (fun j p x H6 H7 hp sm y => ?_) fun H6 sm6 hx6 => ?_
    · obtain ⟨rfl, k', v', hk, rfl⟩ := y
      obtain ⟨p', hp', rfl, _⟩ := dkv_at hk
      rw [hp] at hp'
      cases hp'
      intro Qy Qn qy qn
      refine ⟨rfl, _, rfl, _, rfl, fa, _, rfl, dk_get (same_rd sm rf), _, rfl, ?_⟩
      rw [isSome_ite]
      refine ite2 (fun d => ?_) fun d => ?_
      · exact ⟨_, rfl, qy d _ (Same.refl _)⟩
      · exact qn (Bool.eq_false_iff.mpr d) _ (Same.refl _)
    have nD5 : D5 ≠ a := fun z => by rw [z, upd_same] at hD5; cases hD5
    refine ⟨sm6 _ _ upd_same, ?_⟩
    have sm7 : Same H4 (upd H6 a (CoinK ks c)) := unlock_same ha4 sm6
    generalize hhs : ks.filter (fun p => !decide (p ∈ fs)) = hs at hx6
    have hD7 : upd H6 a (CoinK ks c) D5 = some (.dK (dkv hs fun _ => .bl true)) := (upd_ne nD5).trans hx6
    generalize upd H6 a (CoinK ks c) = H7 at sm7 hD7
    have sm37 := sm4.trans sm7
    have sm07 := sm3.trans sm37
    have ha7 := sm37 _ _ ha3
    have hsub : ∀ p, p ∈ hs ↔ p ∈ ks ∧ p ∉ fs := fun p => by rw [← hhs, List.mem_filter]; simp
    have hsl : hs.length ≤ ks.length := by rw [← hhs]; exact List.length_filter_le _ _
    refine ⟨_, rfl, D5, _, rfl, hD7, rfl, _, rfl, ?_⟩
    refine ite2 (fun d => ?_) fun d => ?_
    · have hs0' : hs = [] := by
        have := V.int.inj (of_decide_eq_true d)
        rw [dkv_len] at this
        exact List.eq_nil_of_length_eq_zero (by omega)
      refine ⟨_, rfl, q H7 a ks c sm07 ha7 fun p hp => ⟨fun pk => G.all I.cl (fun r hr => ?_) pk, fun ns => ?_⟩⟩
      · apply Classical.byContradiction
        intro no
        have := (hsub r).mpr ⟨hr, no⟩
        rw [hs0'] at this
        simp at this
      · apply Classical.byContradiction
        intro no
        exact ns (I.sl p hp no)
    · have ne : hs ≠ [] := fun z => d (by rw [z]; rfl)
      refine ⟨_, rfl, _, rfl, _, rfl, _, rfl, _, rfl, v, T, a, D5, ks, hs, c, _, L, M, rfl, TrAt.same sm07 ht, ok, ha7, hD7, by omega, fun k hk => ⟨I.nd, I.low, I.cl, fun p hp => ?_⟩, hL, by omega, fun H8 k sm8 k0 k2 st => ?_⟩
      · have := (bd p hp).2
        unfold upBy
        by_cases z : p ∈ hs
        · rw [if_pos z]; omega
        · rw [if_neg z]; omega
      refine ⟨_, _, rfl, rfl, ?_⟩
      have ha8 := sm8 _ _ ha7
      refine ⟨_, rfl, _, rfl, _, rfl, _, rfl, a, D5, ks, hs, c, _, k + 1, rfl, ha8, .inl (sm8 _ _ hD7), I.nd, by omega, fun H9 ra sm9 hra => ?_⟩
      have sm09 := sm07.trans (sm8.trans sm9)
      refine ⟨_, rfl, v, T, ra, ks, upBy c hs (k + 1), (M : Int), rfl, TrAt.same sm09 ht, ok, hra, I.nd, I.low, fun H10 na ks' sm10 hna B => ?_⟩
      have g1 : ∃ fs1 t1, Gain (trOf T) L ks (upBy c hs k) fs1 t1 ∧ ∀ p ∈ hs, p ∉ fs1 := by
        rcases st with z | ⟨fs1, t1, g, no⟩
        · rw [z, upBy_zero]
          exact ⟨fs, t, G, fun p hp => ((hsub p).mp hp).2⟩
        · exact ⟨fs1, t1, g, no rfl⟩
      obtain ⟨fs1, t1, g1, no1⟩ := g1
      have len' := B.nd.length_le_of_subset fun p hp => (B.sub p hp).1
      have I2 : LInv (trOf T) L T.length n0 ks' (upBy c hs (k + 1)) := LInv.next ok.wf (by omega) I (fun p hp => ((hsub p).mp hp).1) k0 g1 no1 B.nd (fun p hp => by rw [eM]; exact B.sub p hp) len' (na_end B.cl) (by rw [eM]; exact B.drop)
      obtain ⟨r, rs, er⟩ := List.exists_cons_of_ne_nil ne
      have rh : r ∈ hs := by rw [er]; exact List.mem_cons_self
      have rk := ((hsub r).mp rh).1
      refine ⟨_, room_lt I.nd B.nd (fun p hp => (B.sub p hp).1) (fun p hp => ?_) rk ?_ (bd r rk).2, na, ks', _, _, _, _, rfl, sm09.trans sm10, hna, I2, rfl⟩
      · unfold upBy
        by_cases z : p ∈ hs
        · rw [if_pos z]; omega
        · rw [if_neg z]; omega
      · unfold upBy
        rw [if_pos rh]; omega
def spLeastBy (K : PySem.W.Frag) : Sp := fun vs H Q _ => ∃ (v : V) (T : Trk) (L : Nat), vs = [v, .int (L : Int)] ∧ TrAt K H v T ∧ TrOk T ∧ L ≤ 100 ∧
  ∀ H' a g, Same H H' → H' a = some (.tup (byF T.length g)) → (∀ p, g p = .non ∨ ∃ i, g p = .int i) → (∀ p, p < T.length → (g p = .non ↔ Sl (trOf T) L T.length p)) → Q (.ref a) H'
theorem sc_least_by : FnScope ["track", "limit"] ["track", "limit"] (defScope s_least_by) := ⟨rfl, rfl, rfl, by decide +kernel, rfl, by decide +kernel, by decide +kernel⟩
theorem c_least_by (F : Fx K mg) : C8.Cal P w K mg base 10 "least_by" (spLeastBy K) [] := by
  refine (F.cal (d := d_least_by) (k := 9) 33 (j := 31) rfl rfl rfl sc_least_by (fun _ _ _ _ _ _ us hl => match us, hl with | [_, _], _ => rfl) (fun vs H Q E h => ?_) (fun f cdv A outer s H vs Q E hr h => ?_))
  · obtain ⟨v, T, L, rfl, _⟩ := h; rfl
  · refine ⟨_, (pss_one (ps_ret (C8.pe_c (c_by_place F) hr (by decide) (by rfl) (pa_cons (pv 0) (pa_cons (C8.pe_c (c_least_by_place_within F) hr (by decide) (by rfl) (pa_cons (pv 0) (pa_cons (pv 1) pa_nil))) pa_nil))))), ?_⟩
    obtain ⟨v, T, L, rfl, ht, ok, hL, q⟩ := h
    refine ⟨_, rfl, _, rfl, _, rfl, v, T, L, rfl, ht, ok, hL, fun H1 a ks c sm1 ha iff => ?_⟩
    refine ⟨v, T, a, ks, _, rfl, TrAt.same sm1 ht, ok, .inl ha, fun p => .inr ⟨_, rfl⟩, fun H2 b sm2 hb => q H2 b _ (sm1.trans sm2) hb (fun p => ?_) fun p hp => ?_⟩
    · by_cases z : p ∈ ks
      · rw [if_pos z]; exact .inr ⟨_, rfl⟩
      · rw [if_neg z]; exact .inl rfl
    · by_cases z : p ∈ ks
      · rw [if_pos z]
        exact ⟨(fun h => nomatch h), fun s => absurd s ((iff p hp).mp z)⟩
      · rw [if_neg z]
        exact ⟨fun _ => Classical.byContradiction fun no => z ((iff p hp).mpr no), fun _ => rfl⟩
theorem sc_least_coins_within : FnScope ["track", "limit"] ["track", "limit"] (defScope s_least_coins_within) := ⟨rfl, rfl, rfl, by decide +kernel, rfl, by decide +kernel, by decide +kernel⟩
theorem c_least_coins_within (F : Fx K mg) : C8.Cal P w K mg base 11 "least_coins_within" (spLeastBy K) [] := by
  refine (F.cal (d := d_least_coins_within) (k := 10) 34 (j := 32) rfl rfl rfl sc_least_coins_within (fun _ _ _ _ _ _ us hl => match us, hl with | [_, _], _ => rfl) (fun vs H Q E h => ?_) (fun f cdv A outer s H vs Q E hr h => ?_))
  · obtain ⟨v, T, L, rfl, _⟩ := h; rfl
  · refine ⟨_, (pss_cons (ps_expr (C8.pe_c (c_check_limit F) hr (by decide) (by rfl) (pa_cons (pv 1) pa_nil)))
      (pss_one (ps_ret (C8.pe_c (c_least_by F) hr (by decide) (by rfl) (pa_cons (pv 0) (pa_cons (pv 1) pa_nil)))))), ?_⟩
    obtain ⟨v, T, L, rfl, ht, ok, hL, q⟩ := h
    refine ⟨_, rfl, (L : Int), rfl, by omega, by omega, ?_⟩
    exact ⟨_, rfl, _, rfl, v, T, L, rfl, ht, ok, hL, q⟩
end
end K68
set_option maxRecDepth 100000
set_option maxHeartbeats 400000
namespace K68
open PySem PySem.Spec PyProof.Rows L2
/-- a number at a place, or none -/
def vD : Option Int → V
  | some z => .int z
  | none => .non
def nD : Option Int → PyData
  | some z => .int z
  | none => .none
abbrev NumsT (nums : Nums) : HO := .tup (nums.map vD)
theorem vD_get {nums : Nums} {p : Nat} {o : Option Int} (h : nums[p]? = some o) : (nums.map vD)[p]? = some (vD o) := by rw [List.getElem?_map, h]; rfl
section
variable {P : Program} {w : World} {K : PySem.W.Frag} {mg : Str → Option Value} {base : Heap}
def spFewest (K : PySem.W.Frag) : Sp := fun vs H Q _ => ∃ (v : V) (ds : Prs) (laid : Int), vs = [v, .int laid] ∧ Dp K H v (.list (ds.map prD)) ∧ (∀ q ∈ ds, q.2 ≤ 9) ∧ ∀ H', Same H H' → Q (vD (fewest ds laid)) H'
theorem sc_fewest_laid : FnScope ["needs", "laid", "found", "change", "pay"] ["needs", "laid"] (defScope s_fewest_laid) := ⟨rfl, rfl, rfl, by decide +kernel, rfl, by decide +kernel, by decide +kernel⟩
theorem c_fewest_laid (F : Fx K mg) : C8.Cal P w K mg base 2 "fewest_laid" (spFewest K) [] := by
  refine (F.cal (d := d_fewest_laid) (k := 1) 35 (j := 33) rfl rfl rfl sc_fewest_laid (fun _ _ _ _ _ _ us hl => match us, hl with | [_, _], _ => rfl) (fun vs H Q E h => ?_) (fun f cdv A outer s H vs Q E hr h => ?_))
  · obtain ⟨v, ds, laid, rfl, _⟩ := h; rfl
  · refine ⟨_, (pss_cons (ps_set (i := 2) sc_fewest_laid.nd rfl (Or.inl rfl) pe_int)
      (pss_cons (ps_for PassesOwn.never rfl (piL (K := K) rfl (pv 0)) (tupK (K := K) (n := 2) rfl rfl (pgs_cons (pg_name (i := 3) sc_fewest_laid.nd rfl (Or.inl rfl)) (pgs_cons (pg_name (i := 4) sc_fewest_laid.nd rfl (Or.inl rfl)) pgs_nil))) (pss_one (ps_if (pt_cmpR op_gt (pe_op op_add (pv 3) (pv 1)) pe_int (nomark _)) (pss_cons (ps_if (pt_cmpR op_eq (pv 4) pe_int (nomark _)) (pss_one (ps_ret pe_non)) pss_nil)
      (pss_one (ps_aug (i := 2) sc_fewest_laid.nd rfl (Or.inl rfl) (C8.pe_c (c_rounded_up F) hr (by decide) (by rfl) (pa_cons (pe_op op_add (pv 3) (pv 1)) (pa_cons (pv 4) pa_nil))) ip_add))) pss_nil)))
      (pss_one (ps_ret (pv 2))))), ?_⟩
    obtain ⟨v, ds, laid, rfl, hv, h9, q⟩ := h
    refine ⟨_, rfl, ?_⟩
    refine forL (K := K) (enc := prD) hv (fun i σ H1 => ∃ (p3 p4 : Option V), σ = [some v, some (.int laid), some (.int (((ds.take i).map (term laid)).sum)), p3, p4] ∧ Same H H1 ∧ (ds.take i).any (bad laid) = false) ⟨_, _, rfl, Same.refl _, rfl⟩ (fun i σ H1 h => ?_) (fun i r x σ H1 hi dx h => ?_) fun σ H1 h => ?_
    · obtain ⟨_, _, _, sm, _⟩ := h
      exact Dp.same sm hv
    · obtain ⟨_, _, rfl, sm, nb⟩ := h
      obtain ⟨t, rfl, ht⟩ := pr_tup dx
      have hr' := List.mem_of_getElem? hi
      have tk : ds.take (i + 1) = ds.take i ++ [r] := by rw [List.take_succ, hi]; rfl
      have sumS : ((ds.take (i + 1)).map (term laid)).sum = ((ds.take i).map (term laid)).sum + term laid r := by rw [tk, List.map_append, List.sum_append]; simp
      refine ⟨t, _, rfl, ht, rfl, _, _, rfl, _, _, rfl, rfl, ?_⟩
      refine ⟨_, rfl, _, rfl, _, _, rfl, rfl, _, _, rfl, rfl, _, rfl, ite2 (fun c => ?_) fun c => ?_⟩
      · have pos := of_decide_eq_true c
        refine ⟨_, rfl, rfl, _, rfl, ite2 (fun d => ?_) fun d => ?_⟩
        · have z : r.2 = 0 := by have := V.int.inj (of_decide_eq_true d); omega
          have e : fewest ds laid = none := if_pos (List.any_eq_true.mpr ⟨r, hr', decide_eq_true ⟨pos, z⟩⟩)
          rw [e] at q
          exact q H1 sm
        · have nz : r.2 ≠ 0 := fun z => d (decide_eq_true (by rw [z]; rfl))
          have := h9 r hr'
          refine ⟨_, rfl, _, rfl, _, rfl, _, _, rfl, rfl, _, rfl, _, _, rfl, by omega, by omega, _, _, rfl, rfl, some (.int r.1), some (.int (r.2 : Int)), ?_, sm, ?_⟩
          · have e : term laid r = rup (r.1 + laid) r.2 := if_pos pos
            rw [sumS, e]
            rfl
          · rw [tk, List.any_append, nb]
            have : bad laid r = false := decide_eq_false fun z => nz z.2
            simp [this]
      · have np : ¬ r.1 + laid > 0 := fun z => c (decide_eq_true z)
        refine ⟨some (.int r.1), some (.int (r.2 : Int)), ?_, sm, ?_⟩
        · have e : term laid r = 0 := if_neg np
          rw [sumS, e, Int.add_zero]
          rfl
        · rw [tk, List.any_append, nb]
          have : bad laid r = false := decide_eq_false fun z => np z.1
          simp [this]
    · obtain ⟨_, _, rfl, sm, nb⟩ := h
      rw [List.take_length] at nb ⊢
      have e : fewest ds laid = some ((ds.map (term laid)).sum) := if_neg (by rw [nb]; decide)
      rw [e] at q
      exact ⟨_, rfl, q H1 sm⟩
def spCan (K : PySem.W.Frag) : Sp := fun vs H Q _ => ∃ (v : V) (ds : Prs) (L : Nat), vs = [v, .int (L : Int)] ∧ Dp K H v (.list (ds.map prD)) ∧ (∀ q ∈ ds, q.2 ≤ 9) ∧ L ≤ 100 ∧ ∀ H' b, Same H H' → (b = true ↔ CanR ds L) → Q (.bl b) H'
theorem sc_can_reach : FnScope ["needs", "limit", "laid", "fewest"] ["needs", "limit"] (defScope s_can_reach) := ⟨rfl, rfl, rfl, by decide +kernel, rfl, by decide +kernel, by decide +kernel⟩
theorem c_can_reach (F : Fx K mg) : C8.Cal P w K mg base 3 "can_reach" (spCan K) [] := by
  refine (F.cal (d := d_can_reach) (k := 2) 36 (j := 34) rfl rfl rfl sc_can_reach (fun _ _ _ _ _ _ us hl => match us, hl with | [_, _], _ => rfl) (fun vs H Q E h => ?_) (fun f cdv A outer s H vs Q E hr h => ?_))
  · obtain ⟨v, ds, L, rfl, _⟩ := h; rfl
  · refine ⟨_, (pss_cons (ps_for PassesOwn.never rfl (pi_range1 (by rfl) F.range (pa_cons (pe_op op_add (pv 1) pe_int) pa_nil)) (pg_name (i := 2) sc_can_reach.nd rfl (Or.inl rfl)) (pss_cons (ps_set (i := 3) sc_can_reach.nd rfl (Or.inl rfl) (C8.pe_c (c_fewest_laid F) hr (by decide) (by rfl) (pa_cons (pv 0) (pa_cons (pv 2) pa_nil))))
      (pss_one (ps_if (PW.pt (pw_and (pt_cmpR op_notN (pv 3) pe_non (nomark _)) (pw_and1 (pt_cmpR op_le (pv 3) (pv 2) (nomark _))))) (pss_one (ps_ret pe_bl)) pss_nil))))
      (pss_one (ps_ret pe_bl))), ?_⟩
    obtain ⟨v, ds, L, rfl, hv, h9, hL, q⟩ := h
    refine ⟨_, rfl, _, _, rfl, rfl, _, rfl, by omega, by omega, ?_⟩
    have n1 : ((L : Int) + 1).toNat = L + 1 := by omega
    rw [n1]
    refine for_it walk_range (fun i σ H1 => ∃ (p2 p3 : Option V), σ = [some v, some (.int (L : Int)), p2, p3] ∧ Same H H1 ∧ ∀ j : Nat, j < i → ¬ ∃ f, fewest ds j = some f ∧ f ≤ j) ⟨_, _, rfl, Same.refl _, fun j hj => by omega⟩ (fun _ _ _ _ _ => True.intro) (fun i x σ H1 H2 hi h y => ?_) fun σ H1 h => ?_
    · obtain ⟨rfl, rfl⟩ := y
      obtain ⟨p2, p3, rfl, sm, no⟩ := h
      have ez : ((0 : Int) + (i : Nat)) = (i : Int) := by omega
      show gName 2 (V.int ((0 : Int) + (i : Nat))) _ _ _
      rw [ez]
      refine ⟨_, rfl, _, rfl, v, ds, (i : Int), rfl, Dp.same sm hv, h9, fun H3 sm3 => ?_⟩
      have sm' := sm.trans sm3
      cases e : fewest ds (i : Int) with
      | none =>
        refine ⟨_, rfl, rfl, _, rfl, iteF ?_⟩
        refine ⟨_, _, rfl, sm', fun j hj => ?_⟩
        by_cases c : j = i
        · rw [c, e]; exact fun ⟨f, h, _⟩ => nomatch h
        · exact no j (by omega)
      | some f =>
        refine ⟨_, rfl, rfl, _, rfl, iteT ?_⟩
        refine ⟨_, rfl, _, rfl, _, _, rfl, rfl, _, rfl, ite2 (fun c => ?_) fun c => ?_⟩
        · exact q H3 true sm' ⟨fun _ => canR_few.mpr ⟨i, by omega, f, e, of_decide_eq_true c⟩, fun _ => rfl⟩
        · refine ⟨_, _, rfl, sm', fun j hj => ?_⟩
          by_cases d : j = i
          · rw [d, e]
            exact fun ⟨f', h, h2⟩ => by cases h; exact c (decide_eq_true h2)
          · exact no j (by omega)
    · obtain ⟨p2, p3, rfl, sm, no⟩ := h
      refine q H1 false sm ⟨(fun h => nomatch h), fun h => ?_⟩
      obtain ⟨j, hj, f, e, le⟩ := canR_few.mp h
      exact absurd ⟨f, e, le⟩ (no j (by omega))
/-- numbers at the places of T -/
structure NuOk (T : Trk) (nums : Nums) : Prop where
  len : nums.length = T.length
def spNeeds (K : PySem.W.Frag) : Sp := fun vs H Q _ => ∃ (v : V) (T : Trk) (p : Nat) (na : Addr) (nums : Nums) (aim : Int), vs = [v, .int (p : Int), .ref na, .int aim] ∧ TrAt K H v T ∧ TrOk T ∧ p < T.length ∧ H na = some (NumsT nums) ∧ nums.length = T.length ∧
  ∀ H' v', Same H H' → Dp K H' v' (.list ((needs nums aim (trOf T p)).map prD)) → Q v' H'
theorem sc_needs_for : FnScope ["track", "place", "numbers", "aim", "letter", "pay", "goal"] ["track", "place", "numbers", "aim"] (defScope s_needs_for) := ⟨rfl, rfl, rfl, by decide +kernel, rfl, by decide +kernel, by decide +kernel⟩
theorem c_needs_for (F : Fx K mg) : C8.Cal P w K mg base 2 "needs_for" (spNeeds K) [] := by
  refine (F.cal (d := d_needs_for) (k := 1) 37 (j := 35) rfl rfl rfl sc_needs_for (fun _ _ _ _ _ _ us hl => match us, hl with | [_, _, _, _], _ => rfl) (fun vs H Q E h => ?_) (fun f cdv A outer s H vs Q E hr h => ?_))
  · obtain ⟨v, T, p, na, nums, aim, rfl, _⟩ := h; rfl
  · refine ⟨_, (pss_one (ps_ret (pe_lc (own := [("letter", 4), ("pay", 5), ("goal", 6)]) (g := gTup K 3 (gCons (gName 4) (gCons (gName 5) (gCons (gName 6) (gNil))))) rfl sc_needs_for.nd (piL (K := K) rfl (C8.pe_c (c_steps_of F) hr (by decide) (by rfl) (pa_cons (pv 0) (pa_cons (pv 1) pa_nil)))) (blkOk_by (own := [("letter", 4), ("pay", 5), ("goal", 6)]) (N := ["track", "place", "numbers", "aim", "letter", "pay", "goal"]) (sc := defScope s_needs_for) (by decide +kernel)) (fun _ _ _ _ _ => (tupK (K := K) (n := 3) rfl rfl (pgs_cons (pg_name (i := 4) sc_needs_for.nd rfl (Or.inl rfl)) (pgs_cons (pg_name (i := 5) sc_needs_for.nd rfl (Or.inl rfl)) (pgs_cons (pg_name (i := 6) sc_needs_for.nd rfl (Or.inl rfl)) pgs_nil))))) (fun _ _ _ _ _ => (pts_one (pt_cmpR op_notN (pe_ix (ixT (K := K) rfl) (pv 2) (pv 6) (fun _ _ => rfl)) pe_non (nomark _)))) (fun _ _ _ _ _ => (pe_tup (pa_cons (pe_op op_sub (pv 3) (pe_ix (ixT (K := K) rfl) (pv 2) (pv 6) (fun _ _ => rfl))) (pa_cons (pv 5) pa_nil))))))), ?_⟩
    obtain ⟨v, T, p, na, nums, aim, rfl, ht, ok, hp, hna, hl, q⟩ := h
    obtain ⟨l, l1, l2, l3, l4, l5⟩ := ok.at hp
    refine ⟨_, rfl, _, rfl, v, T, p, l, H, rfl, Same.refl _, ht, l1, fun x dx => ?_⟩
    refine lcL (K := K) (enc := stepD) dx (fun s => (nums[s.2.2]?.join).map fun z => prD (aim - z, s.2.1)) (by omega) (fun s d e => ?_) (fun s x H2 hs sm dx => ?_) fun D H2 xs hD sm hx dx => ?_
    · obtain ⟨z, _, rfl⟩ := Option.map_eq_some_iff.mp e
      exact nl_pr _
    · obtain ⟨t, rfl, ht⟩ := step_tup dx
      have lt : s.2.2 < nums.length := by rw [hl]; exact l5 s hs
      intro Qy Qn qy qn
      refine ⟨t, _, rfl, ht, rfl, _, _, rfl, _, _, rfl, _, _, rfl, rfl, rfl, ?_⟩
      have hg := List.getElem?_eq_getElem lt
      refine ⟨_, rfl, _, rfl, na, _, _, vD nums[s.2.2], rfl, rfl, SqT.of (sm _ _ hna), atI_nat (vD_get hg), rfl, _, rfl, ?_⟩
      rw [hg] at qy qn
      cases e : nums[s.2.2] with
      | none =>
        rw [e] at qn
        exact iteF (qn rfl _ (Same.refl _))
      | some z =>
        rw [e] at qy hg
        refine iteT ?_
        refine ⟨_, rfl, _, rfl, _, rfl, na, _, _, _, rfl, rfl, SqT.of (sm _ _ hna), atI_nat (vD_get hg), _, _, rfl, rfl, ?_⟩
        exact ⟨_, rfl, sz (by simp), fun t2 ht2 => qy _ _ _ rfl (same_new ht2) (.tup (SqT.of upd_same) (.cons (.int _) (.cons (.int _) .nil)))⟩
    · refine q H2 _ sm ?_
      have e : (needs nums aim (trOf T p)).map prD = l.filterMap fun s => (nums[s.2.2]?.join).map fun z => prD (aim - z, s.2.1) := by
        rw [l2]
        unfold needs
        rw [List.map_filterMap, List.filterMap_map]
        congr 1
        funext s
        show ((nums[s.2.2]?.join).map fun v => (aim - v, s.2.1)).map prD = _
        rw [Option.map_map]
        rfl
      rw [e]
      exact .lst (SqL.of hx) dx
theorem needs_pay {T : Trk} {nums : Nums} {aim : Int} {p : Nat} (ok : TrOk T) (hp : p < T.length) : ∀ q ∈ needs nums aim (trOf T p), q.2 ≤ 9 := fun q hq => by
  obtain ⟨a, ha, e⟩ := List.mem_filterMap.mp hq
  obtain ⟨z, _, rfl⟩ := Option.map_eq_some_iff.mp e
  exact ok.wf.pay p hp a ha
def spSlopeAt (K : PySem.W.Frag) : Sp := fun vs H Q _ => ∃ (v : V) (T : Trk) (p : Nat) (na : Addr) (nums : Nums) (L : Nat) (z : Int), vs = [v, .int (L : Int), .ref na, .int (p : Int)] ∧ TrAt K H v T ∧ TrOk T ∧ p < T.length ∧ H na = some (NumsT nums) ∧ nums.length = T.length ∧ nums[p]? = some (some z) ∧ L ≤ 100 ∧
  ∀ H' b, Same H H' → (b = true ↔ ¬ Reach (trOf T) L nums p (z + 1)) → Q (.bl b) H'
theorem sc_is_slope_at : FnScope ["track", "limit", "numbers", "place"] ["track", "limit", "numbers", "place"] (defScope s_is_slope_at) := ⟨rfl, rfl, rfl, by decide +kernel, rfl, by decide +kernel, by decide +kernel⟩
theorem c_is_slope_at (F : Fx K mg) : C8.Cal P w K mg base 4 "is_slope_at" (spSlopeAt K) [] := by
  refine (F.cal (d := d_is_slope_at) (k := 3) 38 (j := 36) rfl rfl rfl sc_is_slope_at (fun _ _ _ _ _ _ us hl => match us, hl with | [_, _, _, _], _ => rfl) (fun vs H Q E h => ?_) (fun f cdv A outer s H vs Q E hr h => ?_))
  · obtain ⟨v, T, p, na, nums, L, z, rfl, _⟩ := h; rfl
  · refine ⟨_, (pss_one (ps_ret (pe_not (C8.pe_c (c_can_reach F) hr (by decide) (by rfl) (pa_cons (C8.pe_c (c_needs_for F) hr (by decide) (by rfl) (pa_cons (pv 0) (pa_cons (pv 3) (pa_cons (pv 2) (pa_cons (pe_op op_add (pe_ix (ixT (K := K) rfl) (pv 2) (pv 3) (fun _ _ => rfl)) pe_int) pa_nil))))) (pa_cons (pv 1) pa_nil)))))), ?_⟩
    obtain ⟨v, T, p, na, nums, L, z, rfl, ht, ok, hp, hna, hl, hz, hL, q⟩ := h
    refine ⟨_, rfl, _, rfl, _, rfl, _, rfl, _, rfl, na, _, _, _, rfl, rfl, SqT.of hna, atI_nat (vD_get hz), _, _, rfl, rfl, ?_⟩
    refine ⟨v, T, p, na, nums, z + 1, rfl, ht, ok, hp, hna, hl, fun H1 v1 sm1 d1 => ?_⟩
    refine ⟨_, rfl, v1, _, L, rfl, d1, needs_pay ok hp, hL, fun H2 b sm2 iff => ?_⟩
    refine ⟨b, rfl, q H2 (!b) (sm1.trans sm2) ?_⟩
    rw [Bool.not_eq_true', ← canR_reach, ← iff, Bool.not_eq_true]
end
end K68
set_option maxRecDepth 100000
set_option maxHeartbeats 400000
namespace K68
open PySem PySem.Spec PyProof.Rows L2
section
variable {P : Program} {w : World} {K : PySem.W.Frag} {mg : Str → Option Value} {base : Heap}
theorem dp_nD {H : Hp} (o : Option Int) : Dp K H (vD o) (nD o) := by cases o <;> constructor
theorem nl_nD (o : Option Int) : NL (nD o) := by cases o <;> constructor
theorem nD_of {H : Hp} {o : Option Int} {x : V} (h : Dp K H x (nD o)) : x = vD o := by
  cases o with
  | none => exact dp_none h
  | some z => exact dp_int h
theorem dp_numsA {H : Hp} : ∀ nums : Nums, DpAll K H (nums.map vD) (nums.map nD)
  | [] => .nil
  | o :: r => .cons (dp_nD o) (dp_numsA r)
theorem dp_nums {H : Hp} {a : Addr} {nums : Nums} (h : H a = some (NumsT nums)) : Dp K H (.ref a) (.tuple (nums.map nD)) := .tup (SqT.of h) (dp_numsA nums)
theorem nums_of {H : Hp} : ∀ {nums : Nums} {xs : List V}, DpAll K H xs (nums.map nD) → xs = nums.map vD
  | [], _, h => dpAll_nil h
  | n :: ns, _, h => by
    obtain ⟨x, r, rfl, h1, h2⟩ := dpAll_cons h
    rw [nD_of h1, nums_of h2]
    rfl
theorem vD_non {o : Option Int} : decide (vD o = .non) = o.isNone := by cases o <;> rfl
def spIsNumbers (K : PySem.W.Frag) : Sp := fun vs H Q _ => ∃ (v : V) (T : Trk) (na : Addr) (nums : Nums), vs = [v, .ref na] ∧ TrAt K H v T ∧ TrOk T ∧ H na = some (NumsT nums) ∧ nums.length = T.length ∧ (∃ p, Has nums p) ∧ ∀ H', Same H H' → Q (.bl true) H'
theorem sc_is_numbers : FnScope ["track", "thing", "number"] ["track", "thing"] (defScope s_is_numbers) := ⟨rfl, rfl, rfl, by decide +kernel, rfl, by decide +kernel, by decide +kernel⟩
theorem c_is_numbers (F : Fx K mg) : C8.Cal P w K mg base 2 "is_numbers" (spIsNumbers K) [] := by
  refine (F.cal (d := d_is_numbers) (k := 1) 39 (j := 37) rfl rfl rfl sc_is_numbers (fun _ _ _ _ _ _ us hl => match us, hl with | [_, _], _ => rfl) (fun vs H Q E h => ?_) (fun f cdv A outer s H vs Q E hr h => ?_))
  · obtain ⟨v, T, na, nums, rfl, _⟩ := h; rfl
  · refine ⟨_, (pss_cons (ps_if (PW.pt (pw_or (pt_not (pt_val (pe_callB (isi (K := K) rfl) (by rfl) F.isinstance (by decide +kernel) (pa_cons (pv 1) (pa_cons (pe_bltn (v := .ty "tuple") (u := .type "tuple") (by rfl) F.tuple (by decide +kernel) rfl) pa_nil))))) (pw_or1 (pt_cmpR op_ne (pe_callB (lenS (K := K) rfl) (by rfl) F.len (by decide +kernel) (pa_cons (pv 1) pa_nil)) (fldK (K := K) rfl (pv 0) rfl) (nomark _))))) (pss_one (ps_ret pe_bl)) pss_nil)
      (pss_cons (ps_if (pt_not (pt_val (pe_callB (allL (K := K) rfl rfl) (by rfl) F.all (by decide +kernel) (pa_cons (pe_lc (own := [("number", 2)]) (g := gName 2) rfl sc_is_numbers.nd (piT (K := K) rfl (pv 1)) (blkOk_by (own := [("number", 2)]) (N := ["track", "thing", "number"]) (sc := defScope s_is_numbers) (by decide +kernel)) (fun _ _ _ _ _ => (pg_name (i := 2) sc_is_numbers.nd rfl (Or.inl rfl))) (fun _ _ _ _ _ => pts_nil) (fun _ _ _ _ _ => (pe_or (pe_cmpR op_isN (pv 2) pe_non (nomark _)) (pe_one (C8.pe_c (c_is_integer F) hr (by decide) (by rfl) (pa_cons (pv 2) pa_nil)))))) pa_nil)))) (pss_one (ps_ret pe_bl)) pss_nil)
      (pss_one (ps_ret (pe_callB (anyL (K := K) rfl rfl) (by rfl) F.any (by decide +kernel) (pa_cons (pe_lc (own := [("number", 2)]) (g := gName 2) rfl sc_is_numbers.nd (piT (K := K) rfl (pv 1)) (blkOk_by (own := [("number", 2)]) (N := ["track", "thing", "number"]) (sc := defScope s_is_numbers) (by decide +kernel)) (fun _ _ _ _ _ => (pg_name (i := 2) sc_is_numbers.nd rfl (Or.inl rfl))) (fun _ _ _ _ _ => pts_nil) (fun _ _ _ _ _ => (pe_cmpR op_notN (pv 2) pe_non (nomark _)))) pa_nil)))))), ?_⟩
    obtain ⟨v, T, na, nums, rfl, ht, ok, hna, hl, ⟨p, z, hz⟩, q⟩ := h
    have n12 := ok.few
    obtain ⟨ta, tC, tdx, tfs, tv, t1, t2, t3, t4⟩ := tr_places F ht
    refine ⟨_, rfl, ⟨_, _, _, _, true, rfl, .ty _, .base (.tup hna), kit_ty (by decide +kernel), true, rfl, iteF ?_⟩⟩
    refine ⟨_, rfl, na, _, rfl, .inr (SqT.of hna), _, rfl, ta, tC, tdx, tfs, _, tv, t1, t2, t3, t4, rfl, _, rfl, ?_⟩
    have e1 : decide (V.int ((nums.map vD).length : Nat) = V.int (T.length : Nat)) = true := decide_eq_true (by rw [List.length_map, hl])
    rw [e1]
    refine iteF ?_
    refine ⟨_, rfl, ?_⟩
    refine lcT (K := K) (enc := nD) (dp_nums hna) (fun _ => some (.bool true)) (by omega) (fun a d e => by cases e; exact .bl _) (fun o x H2 ho sm dx => ?_) fun D H2 xs hD sm hx dx => ?_
    · obtain rfl := nD_of dx
      refine lct_name rfl fun Qy qy => ?_
      refine ⟨_, rfl, rfl, _, rfl, ?_⟩
      cases o with
      | none => exact iteT (qy _ _ (Same.refl _) (.bl _))
      | some z => exact iteF ⟨_, rfl, .inl ⟨z, rfl, qy _ _ (Same.refl _) (.bl _)⟩⟩
    · rw [fmB] at dx
      obtain rfl := dpAll_bools dx
      refine ⟨D, _, rfl, SqL.of hx, _, rfl, ?_⟩
      have e2 : (nums.map fun _ => true).all id = true := by rw [List.all_map]; exact List.all_eq_true.mpr fun _ _ => rfl
      rw [e2]
      refine iteF ?_
      have hna2 := sm _ _ hna
      refine ⟨_, rfl, ?_⟩
      refine lcT (K := K) (enc := nD) (dp_nums hna2) (fun o => some (.bool (!o.isNone))) (by omega) (fun a d e => by cases e; exact .bl _) (fun o x H3 ho sm3 dx => ?_) fun D3 H3 xs hD3 sm3 hx3 dx3 => ?_
      · obtain rfl := nD_of dx
        refine lct_name rfl fun Qy qy => ?_
        refine ⟨_, rfl, rfl, ?_⟩
        rw [vD_non]
        exact qy _ _ (Same.refl _) (.bl _)
      · rw [fmB] at dx3
        obtain rfl := dpAll_bools dx3
        refine ⟨D3, _, rfl, SqL.of hx3, ?_⟩
        have e3 : (nums.map fun o => !o.isNone).any id = true := by
          rw [List.any_map, List.any_eq_true]
          exact ⟨some z, List.mem_of_getElem? hz, rfl⟩
        rw [e3]
        exact q H3 (sm.trans sm3)
def spIsSlope (K : PySem.W.Frag) : Sp := fun vs H Q _ => ∃ (v : V) (T : Trk) (L : Nat) (na : Addr) (nums : Nums), vs = [v, .int (L : Int), .ref na] ∧ TrAt K H v T ∧ TrOk T ∧ H na = some (NumsT nums) ∧ nums.length = T.length ∧ (∃ p, Has nums p) ∧ L ≤ 100 ∧
  (∀ p z, nums[p]? = some (some z) → ¬ Reach (trOf T) L nums p (z + 1)) ∧ ∀ H', Same H H' → Q (.bl true) H'
theorem sc_is_slope : FnScope ["track", "limit", "thing", "place"] ["track", "limit", "thing"] (defScope s_is_slope) := ⟨rfl, rfl, rfl, by decide +kernel, rfl, by decide +kernel, by decide +kernel⟩
theorem c_is_slope (F : Fx K mg) : C8.Cal P w K mg base 5 "is_slope" (spIsSlope K) [] := by
  refine (F.cal (d := d_is_slope) (k := 4) 40 (j := 38) rfl rfl rfl sc_is_slope (fun _ _ _ _ _ _ us hl => match us, hl with | [_, _, _], _ => rfl) (fun vs H Q E h => ?_) (fun f cdv A outer s H vs Q E hr h => ?_))
  · obtain ⟨v, T, L, na, nums, rfl, _⟩ := h; rfl
  · refine ⟨_, (pss_cons (ps_expr (C8.pe_c (c_check_limit F) hr (by decide) (by rfl) (pa_cons (pv 1) pa_nil)))
      (pss_cons (ps_if (pt_not (pt_val (C8.pe_c (c_is_numbers F) hr (by decide) (by rfl) (pa_cons (pv 0) (pa_cons (pv 2) pa_nil))))) (pss_one (ps_ret pe_bl)) pss_nil)
      (pss_one (ps_ret (pe_callB (allL (K := K) rfl rfl) (by rfl) F.all (by decide +kernel) (pa_cons (pe_lc (own := [("place", 3)]) (g := gName 3) rfl sc_is_slope.nd (pi_range1 (by rfl) F.range (pa_cons (fldK (K := K) rfl (pv 0) rfl) pa_nil)) (blkOk_by (own := [("place", 3)]) (N := ["track", "limit", "thing", "place"]) (sc := defScope s_is_slope) (by decide +kernel)) (fun _ _ _ _ _ => (pg_name (i := 3) sc_is_slope.nd rfl (Or.inl rfl))) (fun _ _ _ _ _ => pts_nil) (fun _ _ _ _ _ => (pe_or (pe_cmpR op_isN (pe_ix (ixT (K := K) rfl) (pv 2) (pv 3) (fun _ _ => rfl)) pe_non (nomark _)) (pe_one (C8.pe_c (c_is_slope_at F) hr (by decide) (by rfl) (pa_cons (pv 0) (pa_cons (pv 1) (pa_cons (pv 2) (pa_cons (pv 3) pa_nil))))))))) pa_nil)))))), ?_⟩
    obtain ⟨v, T, L, na, nums, rfl, ht, ok, hna, hl, has, hL, nr, q⟩ := h
    have n12 := ok.few
    refine ⟨_, rfl, (L : Int), rfl, by omega, by omega, ?_⟩
    refine ⟨_, rfl, _, rfl, v, T, na, nums, rfl, ht, ok, hna, hl, has, fun H1 sm1 => ?_⟩
    refine ⟨_, rfl, iteF ?_⟩
    obtain ⟨ta, tC, tdx, tfs, tv, t1, t2, t3, t4⟩ := tr_places F (TrAt.same sm1 ht)
    refine ⟨_, rfl, ta, tC, tdx, tfs, _, tv, t1, t2, t3, t4, _, rfl, by omega, by omega, ?_⟩
    refine lcRg (K := K) (fun _ => some (.bool true)) (by omega) (fun a d e => by cases e; exact .bl _) (fun i H2 hi sm2 => ?_) fun D H2 xs hD sm2 hx dx => ?_
    · refine lct_name rfl fun Qy qy => ?_
      have hi : i < T.length := by omega
      have ez : ((0 : Int) + (i : Nat)) = (i : Int) := by omega
      rw [ez]
      have sm02 := sm1.trans sm2
      have hg := List.getElem?_eq_getElem (show i < nums.length by omega)
      refine ⟨_, rfl, _, rfl, na, _, _, _, rfl, rfl, SqT.of (sm02 _ _ hna), atI_nat (vD_get hg), rfl, _, rfl, ?_⟩
      cases e : nums[i] with
      | none => exact iteT (qy _ _ (Same.refl _) (.bl _))
      | some z =>
        rw [e] at hg
        refine iteF ?_
        refine ⟨_, rfl, _, rfl, _, rfl, _, rfl, v, T, i, na, nums, L, z, rfl, TrAt.same sm02 ht, ok, hi, sm02 _ _ hna, hl, hg, hL, fun H3 b sm3 iff => ?_⟩
        rw [iff.mpr (nr i z hg)]
        exact qy _ _ sm3 (.bl _)
    · rw [fmB] at dx
      obtain rfl := dpAll_bools dx
      refine ⟨D, _, rfl, SqL.of hx, ?_⟩
      have e2 : ((List.range ((T.length : Nat) : Int).toNat).map fun _ => true).all id = true := by rw [List.all_map]; exact List.all_eq_true.mpr fun _ _ => rfl
      have e3 : (((T.length : Nat) : Int) - 0).toNat = ((T.length : Nat) : Int).toNat := by omega
      first
        | rw [e2]
        | rw [e3, e2]
      exact q H2 (sm1.trans sm2)
def spAim (K : PySem.W.Frag) : Sp := fun vs H Q _ => ∃ (v : V) (T : Trk) (p : Nat) (na : Addr) (nums : Nums) (L : Nat) (z : Int), vs = [v, .int (L : Int), .ref na, .int (p : Int)] ∧ TrAt K H v T ∧ TrOk T ∧ p < T.length ∧ H na = some (NumsT nums) ∧ nums.length = T.length ∧ nums[p]? = some (some z) ∧ L ≤ 100 ∧ (∃ a ∈ trOf T p, Has nums a.2) ∧
  ∀ H' r, Same H H' → z ≤ r → (r = z ∨ Reach (trOf T) L nums p r) → (r = z → ¬ Reach (trOf T) L nums p (z + 1)) → Q (.int r) H'
theorem sc_greatest_aim : FnScope ["track", "limit", "numbers", "place", "low", "high", "middle"] ["track", "limit", "numbers", "place"] (defScope s_greatest_aim) := ⟨rfl, rfl, rfl, by decide +kernel, rfl, by decide +kernel, by decide +kernel⟩
theorem c_greatest_aim (F : Fx K mg) : C8.Cal P w K mg base 4 "greatest_aim" (spAim K) [] := by
  refine (F.cal (d := d_greatest_aim) (k := 3) 41 (j := 39) rfl rfl rfl sc_greatest_aim (fun _ _ _ _ _ _ us hl => match us, hl with | [_, _, _, _], _ => rfl) (fun vs H Q E h => ?_) (fun f cdv A outer s H vs Q E hr h => ?_))
  · obtain ⟨v, T, p, na, nums, L, z, rfl, _⟩ := h; rfl
  · refine ⟨_, (pss_cons (ps_set (i := 4) sc_greatest_aim.nd rfl (Or.inl rfl) (pe_ix (ixT (K := K) rfl) (pv 2) (pv 3) (fun _ _ => rfl)))
      (pss_cons (ps_set (i := 5) sc_greatest_aim.nd rfl (Or.inl rfl) (pe_op op_add (pv 4) pe_int))
      (pss_cons (ps_while PassesOwn.never (pt_val (C8.pe_c (c_can_reach F) hr (by decide) (by rfl) (pa_cons (C8.pe_c (c_needs_for F) hr (by decide) (by rfl) (pa_cons (pv 0) (pa_cons (pv 3) (pa_cons (pv 2) (pa_cons (pv 5) pa_nil))))) (pa_cons (pv 1) pa_nil)))) (pss_cons (ps_set (i := 4) sc_greatest_aim.nd rfl (Or.inl rfl) (pv 5))
      (pss_one (ps_set (i := 5) sc_greatest_aim.nd rfl (Or.inl rfl) (pe_op op_sub (pe_op op_add (pv 5) (pv 5)) (pe_ix (ixT (K := K) rfl) (pv 2) (pv 3) (fun _ _ => rfl)))))))
      (pss_cons (ps_while PassesOwn.never (pt_cmpR op_lt (pe_op op_add (pv 4) pe_int) (pv 5) (nomark _)) (pss_cons (ps_set (i := 6) sc_greatest_aim.nd rfl (Or.inl rfl) (pe_op op_fdivN (pe_op op_add (pv 4) (pv 5)) pe_int))
      (pss_one (ps_if (pt_val (C8.pe_c (c_can_reach F) hr (by decide) (by rfl) (pa_cons (C8.pe_c (c_needs_for F) hr (by decide) (by rfl) (pa_cons (pv 0) (pa_cons (pv 3) (pa_cons (pv 2) (pa_cons (pv 6) pa_nil))))) (pa_cons (pv 1) pa_nil)))) (pss_one (ps_set (i := 4) sc_greatest_aim.nd rfl (Or.inl rfl) (pv 6))) (pss_one (ps_set (i := 5) sc_greatest_aim.nd rfl (Or.inl rfl) (pv 6)))))))
      (pss_one (ps_ret (pv 4))))))), ?_⟩
    obtain ⟨v, T, p, na, nums, L, z, rfl, ht, ok, hp, hna, hl, hz, hL, ⟨al, ha, hh⟩, q⟩ := h
    have bound : ∀ aim, Reach (trOf T) L nums p aim → aim ≤ 9 * L + num nums al.2 := fun aim r => reach_le ok.wf hp ha hh r
    generalize 9 * (L : Int) + num nums al.2 = B at bound
    refine ⟨_, rfl, _, rfl, na, _, _, _, rfl, rfl, SqT.of hna, atI_nat (vD_get hz), ?_⟩
    refine ⟨_, rfl, _, _, rfl, rfl, ?_⟩
    refine ⟨fun m σ H1 => ∃ (low high : Int), σ = [some v, some (.int (L : Int)), some (.ref na), some (.int (p : Int)), some (.int low), some (.int high), none] ∧ Same H H1 ∧ z ≤ low ∧ low < high ∧ (low = z ∨ Reach (trOf T) L nums p low) ∧ m = (B + 1 - low).toNat, ⟨_, z, z + 1, rfl, Same.refl _, Int.le_refl _, by omega, .inl rfl, rfl⟩, ?_⟩
    rintro m σ H1 ⟨low, high, rfl, sm1, l1, l2, l3, rfl⟩
    refine ⟨_, rfl, _, rfl, _, rfl, _, rfl, v, T, p, na, nums, high, rfl, TrAt.same sm1 ht, ok, hp, sm1 _ _ hna, hl, fun H2 v2 sm2 d2 => ?_⟩
    refine ⟨_, rfl, v2, _, L, rfl, d2, needs_pay ok hp, hL, fun H3 b sm3 iff => ?_⟩
    rw [canR_reach] at iff
    have sm13 := sm1.trans (sm2.trans sm3)
    refine ⟨_, rfl, ?_⟩
    cases b with
    | true =>
      have r := iff.mp rfl
      have hB := bound _ r
      refine iteT ?_
      refine ⟨fun σ' H' => ∃ m', m' < (B + 1 - low).toNat ∧ ∃ (low high : Int), σ' = [some v, some (.int (L : Int)), some (.ref na), some (.int (p : Int)), some (.int low), some (.int high), none] ∧ Same H H' ∧ z ≤ low ∧ low < high ∧ (low = z ∨ Reach (trOf T) L nums p low) ∧ m' = (B + 1 - low).toNat, fun _ _ h => h, ?_⟩
      refine ⟨_, rfl, _, rfl, _, rfl, _, _, rfl, rfl, _, rfl, _, rfl, na, _, _, _, rfl, rfl, SqT.of (sm13 _ _ hna), atI_nat (vD_get hz), _, _, rfl, rfl, ?_⟩
      exact ⟨_, by omega, high, high + high - z, rfl, sm13, by omega, by omega, .inr r, rfl⟩
    | false =>
      have nr : ¬ Reach (trOf T) L nums p high := fun z => by have := iff.mpr z; cases this
      refine iteF ?_
      refine ⟨fun m σ H1 => ∃ (low high : Int) (pm : Option V), σ = [some v, some (.int (L : Int)), some (.ref na), some (.int (p : Int)), some (.int low), some (.int high), pm] ∧ Same H H1 ∧ z ≤ low ∧ low < high ∧ (low = z ∨ Reach (trOf T) L nums p low) ∧ ¬ Reach (trOf T) L nums p high ∧ m = (high - low).toNat, ⟨_, low, high, _, rfl, sm13, l1, l2, l3, nr, rfl⟩, ?_⟩
      clear l1 l2 l3 nr iff
      rintro m σ H4 ⟨low, high, pm, rfl, sm4, l1, l2, l3, nr, rfl⟩
      refine ⟨_, rfl, _, _, rfl, rfl, _, rfl, _, _, rfl, rfl, _, rfl, ite2 (fun d => ?_) fun d => ?_⟩
      · have lt := of_decide_eq_true d
        refine ⟨fun σ' H' => ∃ m', m' < (high - low).toNat ∧ ∃ (low high : Int) (pm : Option V), σ' = [some v, some (.int (L : Int)), some (.ref na), some (.int (p : Int)), some (.int low), some (.int high), pm] ∧ Same H H' ∧ z ≤ low ∧ low < high ∧ (low = z ∨ Reach (trOf T) L nums p low) ∧ ¬ Reach (trOf T) L nums p high ∧ m' = (high - low).toNat, fun _ _ h => h, ?_⟩
        refine ⟨_, rfl, _, rfl, _, _, rfl, rfl, _, _, rfl, rfl, ⟨by omega, by omega⟩, ?_⟩
        show gName 6 (V.int ((low + high).fdiv 2)) _ _ _
        have ef : (low + high).fdiv 2 = (low + high) / 2 := Int.fdiv_eq_ediv_of_nonneg _ (by omega)
        rw [ef]
        generalize hm : (low + high) / 2 = md
        have b1 : low < md := by omega
        have b2 : md < high := by omega
        refine ⟨_, rfl, _, rfl, _, rfl, _, rfl, v, T, p, na, nums, md, rfl, TrAt.same sm4 ht, ok, hp, sm4 _ _ hna, hl, fun H5 v5 sm5 d5 => ?_⟩
        refine ⟨_, rfl, v5, _, L, rfl, d5, needs_pay ok hp, hL, fun H6 b sm6 iff => ?_⟩
        rw [canR_reach] at iff
        have sm46 := sm4.trans (sm5.trans sm6)
        refine ⟨_, rfl, ?_⟩
        cases b with
        | true => exact iteT ⟨_, rfl, _, by omega, md, high, _, rfl, sm46, by omega, b2, .inr (iff.mp rfl), nr, rfl⟩
        | false => exact iteF ⟨_, rfl, _, by omega, low, md, _, rfl, sm46, l1, b1, l3, (fun z => by have := iff.mpr z; cases this), rfl⟩
      · have eq : high = low + 1 := by
          have : ¬ low + 1 < high := fun z => d (decide_eq_true z)
          omega
        subst eq
        exact ⟨_, rfl, q H4 low sm4 l1 l3 fun e => by rw [← e]; exact nr⟩
end
end K68
set_option maxRecDepth 100000
set_option maxHeartbeats 400000
namespace K68
open PySem PySem.Spec PyProof.Rows L2
theorem eqvA_nums : ∀ {a b : Nums}, PyData.eqvAll (a.map nD) (b.map nD) = true ↔ a = b
  | [], [] => by simp [PyData.eqvAll]
  | [], _ :: _ => by simp [PyData.eqvAll]
  | _ :: _, [] => by simp [PyData.eqvAll]
  | x :: a, y :: b => by
    rw [List.map_cons, List.map_cons, PyData.eqvAll, Bool.and_eq_true, eqvA_nums (a := a) (b := b), List.cons.injEq]
    refine and_congr_left fun _ => ?_
    cases x <;> cases y <;> simp [nD, PyData.eqv]
theorem eqv_nums {a b : Nums} : PyData.eqv (.tuple (a.map nD)) (.tuple (b.map nD)) = true ↔ a = b := by rw [PyData.eqv]; exact eqvA_nums
theorem lay_nums : ∀ a : Nums, PyData.canLayAll0 (a.map nD) = true ∧ PyData.depthAll (a.map nD) = 0
  | [] => ⟨rfl, rfl⟩
  | x :: a => by
    obtain ⟨h1, h2⟩ := lay_nums a
    rw [List.map_cons, PyData.canLayAll0, PyData.depthAll, h1, h2]
    cases x <;> exact ⟨rfl, rfl⟩
theorem shaped_nums (a : Nums) : SeqAt.shaped (.tuple (a.map nD)) = true := by
  unfold SeqAt.shaped
  rw [PyData.canLay0, PyData.depth, (lay_nums a).1, (lay_nums a).2]
  rfl
section
variable {P : Program} {w : World} {K : PySem.W.Frag} {mg : Str → Option Value} {base : Heap}
def spSlopeOf (K : PySem.W.Frag) : Sp := fun vs H Q _ => ∃ (v : V) (T : Trk) (L : Nat) (pa : Addr) (pl : List Nat), vs = [v, .int (L : Int), .ref pa] ∧ TrAt K H v T ∧ TrOk T ∧ H pa = some (.lst (pl.map natV)) ∧ L ≤ 100 ∧ (∀ p, p < T.length → (p ∈ pl ↔ Sl (trOf T) L T.length p)) ∧
  ∀ H' a nums, Same H H' → H' a = some (NumsT nums) → Least (trOf T) L T.length nums → Q (.ref a) H'
theorem sc_slope_of : FnScope ["track", "limit", "places", "numbers", "changed", "later", "place", "number"] ["track", "limit", "places"] (defScope s_slope_of) := ⟨rfl, rfl, rfl, by decide +kernel, rfl, by decide +kernel, by decide +kernel⟩
theorem c_slope_of (F : Fx K mg) : C8.Cal P w K mg base 5 "slope_of" (spSlopeOf K) [] := by
  refine (F.cal (d := d_slope_of) (k := 4) 42 (j := 40) rfl rfl rfl sc_slope_of (fun _ _ _ _ _ _ us hl => match us, hl with | [_, _, _], _ => rfl) (fun vs H Q E h => ?_) (fun f cdv A outer s H vs Q E hr h => ?_))
  · obtain ⟨v, T, L, pa, pl, rfl, _⟩ := h; rfl
  · refine ⟨_, (pss_cons (ps_set (i := 3) sc_slope_of.nd rfl (Or.inl rfl) (pe_callTy (tupOf (K := K) rfl) (by rfl) F.tuple (by decide +kernel) (pa_cons (pe_lc (own := [("place", 6)]) (g := gName 6) rfl sc_slope_of.nd (pi_range1 (by rfl) F.range (pa_cons (fldK (K := K) rfl (pv 0) rfl) pa_nil)) (blkOk_by (own := [("place", 6)]) (N := ["track", "limit", "places", "numbers", "changed", "later", "place", "number"]) (sc := defScope s_slope_of) (by decide +kernel)) (fun _ _ _ _ _ => (pg_name (i := 6) sc_slope_of.nd rfl (Or.inl rfl))) (fun _ _ _ _ _ => pts_nil) (fun _ _ _ _ _ => (pe_ifExp (pt_cmpR (inS (K := K) rfl) (pv 6) (pv 2) rfl) pe_int pe_non))) pa_nil)))
      (pss_cons (ps_set (i := 4) sc_slope_of.nd rfl (Or.inl rfl) pe_bl)
      (pss_cons (ps_while PassesOwn.never (pt_val (pv 4)) (pss_cons (ps_set (i := 5) sc_slope_of.nd rfl (Or.inl rfl) (pe_lst pa_nil))
      (pss_cons (ps_for PassesOwn.never rfl (pi_enumT (by rfl) F.enumerate (pa_cons (pv 3) pa_nil)) (tupK (K := K) (n := 2) rfl rfl (pgs_cons (pg_name (i := 6) sc_slope_of.nd rfl (Or.inl rfl)) (pgs_cons (pg_name (i := 7) sc_slope_of.nd rfl (Or.inl rfl)) pgs_nil))) (pss_one (ps_expr (pe_bm PySem.F.plainAttrs_list PySem.F.slot_list_append PySem.F.type_list_append mt_append (pv 5) (pa_cons (pe_ifExp (pt_cmpR op_isN (pv 7) pe_non (nomark _)) pe_non (C8.pe_c (c_greatest_aim F) hr (by decide) (by rfl) (pa_cons (pv 0) (pa_cons (pv 1) (pa_cons (pv 3) (pa_cons (pv 6) pa_nil)))))) pa_nil)))))
      (pss_cons (ps_set (i := 4) sc_slope_of.nd rfl (Or.inl rfl) (pe_cmpR (neD (K := K) rfl hr.units) (pe_callTy (tupOf (K := K) rfl) (by rfl) F.tuple (by decide +kernel) (pa_cons (pv 5) pa_nil)) (pv 3) (nomark _)))
      (pss_one (ps_set (i := 3) sc_slope_of.nd rfl (Or.inl rfl) (pe_callTy (tupOf (K := K) rfl) (by rfl) F.tuple (by decide +kernel) (pa_cons (pv 5) pa_nil))))))))
      (pss_one (ps_ret (pv 3)))))), ?_⟩
    obtain ⟨v, T, L, pa, pl, rfl, ht, ok, hpa, hL, iff, q⟩ := h
    have n12 := ok.few
    obtain ⟨ta, tC, tdx, tfs, tv, t1, t2, t3, t4⟩ := tr_places F ht
    refine ⟨_, rfl, ta, tC, tdx, tfs, _, tv, t1, t2, t3, t4, _, rfl, by omega, by omega, ?_⟩
    refine lcRg (K := K) (fun p => some (nD (if p ∈ pl then some 0 else none))) (by omega) (fun a d e => by cases e; exact nl_nD _) (fun i H2 hi sm2 => ?_) fun D H2 xs hD sm2 hx dx => ?_
    · refine lct_name rfl fun Qy qy => ?_
      have ez : ((0 : Int) + (i : Nat)) = (i : Int) := by omega
      rw [ez]
      refine ⟨_, rfl, _, rfl, pa, _, rfl, .inl (SqL.of (sm2 _ _ hpa)), rfl, flat_ints, _, rfl, ?_⟩
      show if inV (.int ((i : Nat) : Int)) _ = true then _ else _
      rw [in_nats]
      refine ite2 (fun c => ?_) fun c => ?_
      · have e := qy (.int 0) H2 (Same.refl _)
        rw [if_pos (of_decide_eq_true c)] at e
        exact e (.int _)
      · have e := qy .non H2 (Same.refl _)
        rw [if_neg (fun z => c (decide_eq_true z))] at e
        exact e .non
    rw [fmS] at dx
    have e0 : ((List.range ((T.length : Nat) : Int).toNat).map fun p => nD (if p ∈ pl then some 0 else none)) = ((List.range T.length).map fun p => if p ∈ pl then some (0 : Int) else none).map nD := by rw [List.map_map]; rfl
    have dx2 : DpAll K H2 xs (((List.range T.length).map fun p => if p ∈ pl then some (0 : Int) else none).map nD) := by rw [← e0]; exact dx
    obtain rfl := nums_of dx2
    refine ⟨D, _, rfl, .inl ⟨SqL.of hx, fun l hl => ?_⟩⟩
    have sm3 := sm2.trans (same_new (o := NumsT ((List.range T.length).map fun p => if p ∈ pl then some (0 : Int) else none)) hl)
    have wf := ok.wf
    obtain ⟨s0, hs0⟩ := sl_all (L := (L : Int)) wf
    obtain ⟨sS, hS, hS0⟩ := slope_up hs0
    refine ⟨fun m σ H1 => ∃ (na : Addr) (nums : Nums) (g : Bool) (p5 p6 p7 : Option V), σ = [some v, some (.int (L : Int)), some (.ref pa), some (.ref na), some (.bl g), p5, p6, p7] ∧ Same H H1 ∧ H1 na = some (NumsT nums) ∧ Iter (trOf T) L T.length nums ∧ (g = false → Least (trOf T) L T.length nums) ∧ m = if g = true then far sS nums T.length + 1 else 0,
      ⟨_, l, _, true, _, _, _, rfl, sm3, upd_same, iter_start (by rw [List.length_map, List.length_range]) (fun p hp => ⟨fun h => ?_, fun h => ?_⟩), fun z => (nomatch z), rfl⟩, ?_⟩
    · rw [List.getElem?_map, List.getElem?_range hp, Option.map_some, if_pos ((iff p hp).mpr h)]
    · rw [List.getElem?_map, List.getElem?_range hp, Option.map_some, if_neg fun z => h ((iff p hp).mp z)]
    rintro m σ H1 ⟨na, nums, g, p5, p6, p7, rfl, sm1, hna, I, lst, rfl⟩
    refine ⟨_, rfl, _, rfl, ite2 (fun cg => ?_) fun cg => ?_⟩
    · rw [if_pos cg]
      refine ⟨fun σ' H' => ∃ m', m' < far sS nums T.length + 1 ∧ ∃ (na : Addr) (nums : Nums) (g : Bool) (p5 p6 p7 : Option V), σ' = [some v, some (.int (L : Int)), some (.ref pa), some (.ref na), some (.bl g), p5, p6, p7] ∧ Same H H' ∧ H' na = some (NumsT nums) ∧ Iter (trOf T) L T.length nums ∧ (g = false → Least (trOf T) L T.length nums) ∧ m' = if g = true then far sS nums T.length + 1 else 0, fun _ _ h => h, ?_⟩
      refine ⟨sz (by simp), fun D hD => ?_⟩
      have nD' : D ≠ na := fun z => by rw [z, hna] at hD; cases hD
      refine ⟨_, rfl, na, _, rfl, SqT.of ((upd_ne nD'.symm).trans hna), ?_⟩
      refine for_it (walk_enumT (l := nums.map vD)) (fun i σ H2 => ∃ (bs : Nums) (p6 p7 : Option V), σ = [some v, some (.int (L : Int)), some (.ref pa), some (.ref na), some (.bl g), some (.ref D), p6, p7] ∧ Same H1 H2 ∧ H2 D = some (.lst (bs.map vD)) ∧ bs.length = i ∧
          (∀ q, q < i → nums[q]? = some none → bs[q]? = some none) ∧ ∀ (q : Nat) (z : Int), q < i → nums[q]? = some (some z) → ∃ r, bs[q]? = some (some r) ∧ z ≤ r ∧ (r = z ∨ Reach (trOf T) L nums q r) ∧ (r = z → ¬ Reach (trOf T) L nums q (z + 1)))
        ⟨[], _, _, rfl, same_new hD, upd_same, rfl, fun q hq => by omega, fun q z hq => by omega⟩ (fun i σ H2 _ h => ?_) (fun i x σ H2 H3 hi h y => ?_) fun σ H2 h => ?_
      · obtain ⟨bs, _, _, _, sm2, _⟩ := h
        exact SqT.of (sm2 _ _ hna)
      · obtain ⟨t, x1, x2, rfl, h2, rfl, h4, h5⟩ := y
        obtain ⟨bs, p6, p7, rfl, sm2, hD2, bl, non, som⟩ := h
        rw [List.length_map] at hi
        have hg := List.getElem?_eq_getElem hi
        have h5 : (nums.map vD)[i]? = some x2 := h5
        rw [vD_get hg] at h5
        cases h4
        cases h5
        have hiT : i < T.length := by rw [← I.len]; exact hi
        have hD3 : upd H2 t (.tup [.int (i : Int), vD nums[i]]) D = some (.lst (bs.map vD)) := (same_new h2) _ _ hD2
        have sm23 : Same H1 (upd H2 t (.tup [.int (i : Int), vD nums[i]])) := sm2.trans (same_new h2)
        generalize hH3 : upd H2 t (.tup [.int (i : Int), vD nums[i]]) = H3 at hD3 sm23
        have ht3 : H3 t = some (.tup [.int (i : Int), vD nums[i]]) := by rw [← hH3, upd_same]
        refine ⟨t, _, rfl, SqT.of ht3, rfl, _, _, rfl, _, _, rfl, rfl, ?_⟩
        refine ⟨_, rfl, .inl ⟨rfl, _, SqL.of hD3⟩, ?_⟩
        have bsl : (bs.map vD).length < sizeLine := by rw [List.length_map]; exact small1000 (by omega)
        have low : ∀ q, q < i + 1 → q < i ∨ q = i := fun q hq => by omega
        cases e : nums[i] with
        | none =>
          rw [e] at hg
          refine ⟨_, rfl, rfl, _, rfl, iteT ?_⟩
          refine ⟨D, _, _, rfl, rfl, hD3, bsl, bs ++ [none], _, _, rfl, same_mut sm23 hD, by rw [upd_same, List.map_append]; rfl, by rw [List.length_append, bl]; rfl, fun q hq hn => ?_, fun q z hq hn => ?_⟩
          · rcases low q hq with c | c
            · rw [List.getElem?_append_left (by omega)]; exact non q c hn
            · rw [c, ← bl]; simp
          · rcases low q hq with c | c
            · rw [List.getElem?_append_left (by omega)]; exact som q z c hn
            · rw [c, hg] at hn; cases hn
        | some z =>
          rw [e] at hg
          refine ⟨_, rfl, rfl, _, rfl, iteF ?_⟩
          have hasI : Has nums i := ⟨z, hg⟩
          have ex : ∃ a ∈ trOf T i, Has nums a.2 := by
            have sl := (I.sup i).mp hasI
            obtain ⟨e, he, ha, _⟩ := hs0.held i sl (List.replicate (trOf T i).length 0) (List.length_replicate) (by simp)
            exact ⟨e.1, (zip_r he).1, (I.sup _).mpr ha⟩
          refine ⟨_, rfl, _, rfl, _, rfl, _, rfl, v, T, i, na, nums, L, z, rfl, TrAt.same (sm1.trans sm23) ht, ok, hiT, sm23 _ _ hna, I.len, hg, hL, ex, fun H4 r sm4 r1 r2 r3 => ?_⟩
          refine ⟨D, _, _, rfl, rfl, sm4 _ _ hD3, bsl, bs ++ [some r], _, _, rfl, same_mut (sm23.trans sm4) hD, by rw [upd_same, List.map_append]; rfl, by rw [List.length_append, bl]; rfl, fun q hq hn => ?_, fun q z' hq hn => ?_⟩
          · rcases low q hq with c | c
            · rw [List.getElem?_append_left (by omega)]; exact non q c hn
            · rw [c, hg] at hn; cases hn
          · rcases low q hq with c | c
            · rw [List.getElem?_append_left (by omega)]; exact som q z' c hn
            · rw [c, hg] at hn
              cases hn
              refine ⟨r, by rw [c, ← bl]; simp, r1, ?_, ?_⟩
              · rw [c]; exact r2
              · rw [c]; exact r3
      · obtain ⟨bs, p6, p7, rfl, sm2, hD2, bl, non, som⟩ := h
        rw [List.length_map] at bl non som
        have Tn : Turn (trOf T) L nums bs := ⟨bl, fun q hn => non q (List.getElem?_eq_some_iff.mp hn).1 hn, fun q z hn => som q z (List.getElem?_eq_some_iff.mp hn).1 hn⟩
        have I2 := I.turn Tn
        refine ⟨_, rfl, D, _, rfl, .inl ⟨SqL.of hD2, fun a ha => ?_⟩⟩
        have hna2 : upd H2 a (NumsT bs) na = some (NumsT nums) := (same_new ha) _ _ (sm2 _ _ hna)
        have hD3 : upd H2 a (NumsT bs) D = some (.lst (bs.map vD)) := (same_new ha) _ _ hD2
        refine ⟨_, rfl, _, _, dp_nums (H := upd H2 a (NumsT bs)) upd_same, dp_nums hna2, shaped_nums _, shaped_nums _, ?_⟩
        refine ⟨_, rfl, D, _, rfl, .inl ⟨SqL.of hD3, fun b hb => ?_⟩⟩
        refine ⟨_, ?_, b, bs, _, _, _, _, rfl, sm1.trans (sm2.trans ((same_new ha).trans (same_new hb))), upd_same, I2, fun z => ?_, rfl⟩
        · by_cases c : bs = nums
          · have : PyData.eqv (.tuple (bs.map nD)) (.tuple (nums.map nD)) = true := eqv_nums.mpr c
            rw [this]
            exact Nat.succ_pos _
          · have lt := I.far_lt Tn c hS hS0
            split <;> omega
        · have e : bs = nums := by
            rw [← eqv_nums]
            simpa using z
          subst e
          exact Iter.stop I2 Tn
    · exact ⟨_, rfl, q H1 na nums sm1 hna (lst (Bool.eq_false_iff.mpr cg))⟩
def spSlope (K : PySem.W.Frag) : Sp := fun vs H Q _ => ∃ (v : V) (T : Trk) (L p : Nat), vs = [v, .int (L : Int), .int (p : Int)] ∧ TrAt K H v T ∧ TrOk T ∧ p < T.length ∧ L ≤ 100 ∧
  (¬ Sl (trOf T) L T.length p → ∀ H', Same H H' → Q .non H') ∧ (Sl (trOf T) L T.length p → ∀ H' a nums, Same H H' → H' a = some (NumsT nums) → Least (trOf T) L T.length nums → Q (.ref a) H')
theorem sc_slope : FnScope ["track", "limit", "place", "coins", "other", "number"] ["track", "limit", "place"] (defScope s_slope) := ⟨rfl, rfl, rfl, by decide +kernel, rfl, by decide +kernel, by decide +kernel⟩
theorem c_slope (F : Fx K mg) : C8.Cal P w K mg base 11 "slope" (spSlope K) [] := by
  refine (F.cal (d := d_slope) (k := 10) 43 (j := 41) rfl rfl rfl sc_slope (fun _ _ _ _ _ _ us hl => match us, hl with | [_, _, _], _ => rfl) (fun vs H Q E h => ?_) (fun f cdv A outer s H vs Q E hr h => ?_))
  · obtain ⟨v, T, L, p, rfl, _⟩ := h; rfl
  · refine ⟨_, (pss_cons (ps_expr (C8.pe_c (c_check_limit F) hr (by decide) (by rfl) (pa_cons (pv 1) pa_nil)))
      (pss_cons (ps_expr (C8.pe_c (c_check_place F) hr (by decide) (by rfl) (pa_cons (pv 0) (pa_cons (pv 2) pa_nil))))
      (pss_cons (ps_set (i := 3) sc_slope.nd rfl (Or.inl rfl) (C8.pe_c (c_least_by F) hr (by decide) (by rfl) (pa_cons (pv 0) (pa_cons (pv 1) pa_nil))))
      (pss_cons (ps_if (pt_cmpR op_notN (pe_ix (ixT (K := K) rfl) (pv 3) (pv 2) (fun _ _ => rfl)) pe_non (nomark _)) (pss_one (ps_ret pe_non)) pss_nil)
      (pss_one (ps_ret (C8.pe_c (c_slope_of F) hr (by decide) (by rfl) (pa_cons (pv 0) (pa_cons (pv 1) (pa_cons (pe_lc (own := [("other", 4), ("number", 5)]) (g := gTup K 2 (gCons (gName 4) (gCons (gName 5) (gNil)))) rfl sc_slope.nd (pi_enumT (by rfl) F.enumerate (pa_cons (pv 3) pa_nil)) (blkOk_by (own := [("other", 4), ("number", 5)]) (N := ["track", "limit", "place", "coins", "other", "number"]) (sc := defScope s_slope) (by decide +kernel)) (fun _ _ _ _ _ => (tupK (K := K) (n := 2) rfl rfl (pgs_cons (pg_name (i := 4) sc_slope.nd rfl (Or.inl rfl)) (pgs_cons (pg_name (i := 5) sc_slope.nd rfl (Or.inl rfl)) pgs_nil)))) (fun _ _ _ _ _ => (pts_one (pt_cmpR op_isN (pv 5) pe_non (nomark _)))) (fun _ _ _ _ _ => (pv 4))) pa_nil)))))))))), ?_⟩
    obtain ⟨v, T, L, p, rfl, ht, ok, hp, hL, qn, qs⟩ := h
    have n12 := ok.few
    refine ⟨_, rfl, (L : Int), rfl, by omega, by omega, ?_⟩
    refine ⟨_, rfl, _, rfl, v, T, p, rfl, ht, hp, ?_⟩
    refine ⟨_, rfl, _, rfl, v, T, L, rfl, ht, ok, hL, fun H1 a g sm1 ha kinds iff => ?_⟩
    refine ⟨_, rfl, _, rfl, a, _, _, g p, rfl, rfl, SqT.of ha, atI_nat (byF_get hp), rfl, _, rfl, ite2 (fun c => ?_) fun c => ?_⟩
    · refine qn (fun s => ?_) H1 sm1
      rw [(iff p hp).mpr s] at c
      cases c
    · have gp : g p = .non := by simpa using c
      refine ⟨_, rfl, _, rfl, _, rfl, a, _, rfl, SqT.of ha, ?_⟩
      intro D hD
      refine lcW (K := K) walk_enumT hD (fun i => if decide (g i = .non) = true then some (natD i) else none) (by rw [byF_len]; exact small1000 (by omega)) (fun H s => same_t s (SqT.of ha)) (fun i H x H' y => by obtain ⟨T', x', y', h1, h2, h3, _⟩ := y; rw [h3]; exact same_new h2) (fun i d e => ?_) (fun i x H H' hi sm y => ?_) fun H3 xs sm3 hx dx => ?_
      · by_cases c : decide (g i = .non) = true
        · rw [if_pos c] at e; cases e; exact nl_nat _
        · rw [if_neg c] at e; cases e
      · obtain ⟨t, x1, x2, rfl, h2, rfl, h4, h5⟩ := y
        rw [byF_len] at hi
        have h5 : (byF T.length g)[i]? = some x2 := h5
        rw [byF_get hi] at h5
        cases h4
        cases h5
        intro Qy Qn qy qn
        refine ⟨t, _, rfl, SqT.of upd_same, rfl, _, _, rfl, _, _, rfl, rfl, rfl, _, rfl, rfl, _, rfl, ite2 (fun c => ?_) fun c => ?_⟩
        · exact ⟨_, rfl, qy _ _ _ (if_pos c) (Same.refl _) (.int _)⟩
        · exact qn (if_neg c) _ (Same.refl _)
      · rw [byF_len, fm_filter] at dx
        obtain rfl := nats_of dx
        refine ⟨v, T, L, D, keptOf T.length g, rfl, TrAt.same (sm1.trans sm3) ht, ok, hx, hL, fun r hr => ?_, fun H4 b nums sm4 hb l => qs ((iff p hp).mp gp) H4 b nums (sm1.trans (sm3.trans sm4)) hb l⟩
        rw [mem_kept]
        exact ⟨fun h => (iff r hr).mp h.2, fun h => ⟨hr, (iff r hr).mpr h⟩⟩
end
end K68
set_option maxRecDepth 100000
set_option maxHeartbeats 400000
namespace K68
open PySem PySem.Spec PyProof.Rows L2
/-- an arrow as it is told: place, sign, pay, goal -/
structure A4 where
  p : Nat
  c : Nat
  y : Nat
  g : Nat
def sg (c : Nat) : Str := ⟨#[c]⟩
def arD (a : A4) : PyData := .tuple [.int (a.p : Int), .str (sg a.c), .int (a.y : Int), .int (a.g : Int)]
def A4.lt (a b : A4) : Prop := a.p < b.p ∨ (a.p = b.p ∧ a.c < b.c)
theorem ar_alike (a b : A4) : PySem.W.alike (arD a) (arD b) = true := by simp [arD, PySem.W.alike, PySem.W.alikeAll]
theorem ar_lt {a b : A4} (h : a.lt b) : PySem.W.dataLt (arD a) (arD b) = true := by
  unfold PySem.W.dataLt arD
  simp only [PySem.W.keyToks, PySem.W.keyToksAll, List.cons_append, List.nil_append]
  rw [PyProof.Rows.lex_self]
  by_cases e : a.p = b.p
  · have hc : a.c < b.c := by
      rcases h with h | h
      · omega
      · exact h.2
    rw [e, PyProof.Rows.lex_self, PyProof.Rows.lex_self, PyProof.Rows.lex_cons]
    have : itemOrd.blt (Sum.inr (sg a.c).cps.toList) (Sum.inr (sg b.c).cps.toList) = true := by
      exact decide_eq_true (List.cons_lt_cons_iff.mpr (.inl hc))
    rw [this, Bool.true_or]
  · have hp : a.p < b.p := by
      rcases h with h | h
      · exact h
      · exact absurd h.1 e
    rw [PyProof.Rows.lex_cons]
    have : itemOrd.blt (Sum.inl (a.p : Int)) (Sum.inl (b.p : Int)) = true := decide_eq_true (by omega)
    rw [this, Bool.true_or]
theorem ar_not_lt {a b : A4} (h : a.lt b) : PySem.W.dataLt (arD b) (arD a) = false := by
  cases e : PySem.W.dataLt (arD b) (arD a) with
  | false => rfl
  | true =>
    have := PyProof.Rows.lex_trans _ _ _ (ar_lt h) e
    rw [PyProof.Rows.lex_irrefl] at this
    cases this

/-- what is told of a track -/
structure ToldOk (n : Nat) (ars : List A4) : Prop where
  pos : 1 ≤ n
  few : n ≤ 12
  one : 1 ≤ ars.length
  len : ars.length ≤ 48
  arr : ∀ a ∈ ars, a.p < n ∧ a.y ≤ 9 ∧ a.g < n ∧ 97 ≤ a.c ∧ a.c ≤ 122
  asc : ars.Pairwise A4.lt
  all : ∀ p, p < n → ∃ a ∈ ars, a.p = p
  four : ∀ p, p < n → (ars.filter fun a => decide (a.p = p)).length ≤ 4
def arw (a : A4) : Arw := (sg a.c, a.y, a.g)
def trk (n : Nat) (ars : List A4) : Trk := (List.range n).map fun p => (ars.filter fun a => decide (a.p = p)).map arw
theorem trk_len {n : Nat} {ars : List A4} : (trk n ars).length = n := by unfold trk; rw [List.length_map, List.length_range]
theorem trk_at {n : Nat} {ars : List A4} {p : Nat} (h : p < n) : (trk n ars)[p]? = some ((ars.filter fun a => decide (a.p = p)).map arw) := by
  unfold trk
  rw [List.getElem?_map, List.getElem?_range h]; rfl
theorem trk_mem {n : Nat} {ars : List A4} {l : List Arw} (h : l ∈ trk n ars) : ∃ p, p < n ∧ l = (ars.filter fun a => decide (a.p = p)).map arw := by
  obtain ⟨p, hp, e⟩ := List.mem_map.mp h
  exact ⟨p, List.mem_range.mp hp, e.symm⟩
theorem ToldOk.trk {n : Nat} {ars : List A4} (h : ToldOk n ars) : TrOk (trk n ars) := by
  refine ⟨by rw [trk_len]; exact h.pos, by rw [trk_len]; exact h.few, fun l hl => ?_, fun l hl => ?_, fun l hl s hs => ?_, fun l hl s hs => ?_⟩
  · obtain ⟨p, hp, rfl⟩ := trk_mem hl
    obtain ⟨a, ha, e⟩ := h.all p hp
    intro z
    have := List.map_eq_nil_iff.mp z
    have m : a ∈ ars.filter fun a => decide (a.p = p) := List.mem_filter.mpr ⟨ha, decide_eq_true e⟩
    rw [this] at m
    simp at m
  · obtain ⟨p, hp, rfl⟩ := trk_mem hl
    rw [List.length_map]; exact h.four p hp
  · obtain ⟨p, hp, rfl⟩ := trk_mem hl
    obtain ⟨a, ha, rfl⟩ := List.mem_map.mp hs
    exact (h.arr a (List.mem_filter.mp ha).1).2.1
  · obtain ⟨p, hp, rfl⟩ := trk_mem hl
    obtain ⟨a, ha, rfl⟩ := List.mem_map.mp hs
    rw [trk_len]
    exact (h.arr a (List.mem_filter.mp ha).1).2.2.1
theorem nl_ar (a : A4) : NL (arD a) := .tup (.cons (.int _) (.cons (.str _) (.cons (.int _) (.cons (.int _) .nil))))
section
variable {P : Program} {w : World} {K : PySem.W.Frag} {mg : Str → Option Value} {base : Heap}
theorem ar_tup {H : Hp} {x : V} {a : A4} (h : Dp K H x (arD a)) : ∃ t, x = .ref t ∧ SqT K H t [.int (a.p : Int), .str (sg a.c), .int (a.y : Int), .int (a.g : Int)] := by
  obtain ⟨t, ys, rfl, ht, hy⟩ := dp_tup h
  obtain ⟨x1, r, rfl, h1, hy⟩ := dpAll_cons hy
  obtain ⟨x2, r, rfl, h2, hy⟩ := dpAll_cons hy
  obtain ⟨x3, r, rfl, h3, hy⟩ := dpAll_cons hy
  obtain ⟨x4, r, rfl, h4, hy⟩ := dpAll_cons hy
  obtain rfl := dpAll_nil hy
  rw [dp_int h1, dp_str h2, dp_int h3, dp_int h4] at ht
  exact ⟨t, rfl, ht⟩
theorem tyx_t {H : Hp} {a : Addr} {xs : List V} (h : SqT K H a xs) : TyX K H (.ref a) (.type "tuple") := by
  rcases h with (h | ⟨o, h⟩) | h
  · exact .base (.tup h)
  · exact .fTuple h
  · obtain ⟨o, its, n, h1, h2, _⟩ := h
    exact .kTuple h1 h2
theorem all_yes {α : Type} {l : List α} : (l.map fun _ => true).all id = true := by rw [List.all_map]; exact List.all_eq_true.mpr fun _ _ => rfl
/-- the methods of the class -/
theorem Fx.fnm (F : Fx K mg) (i : Nat) {d : He.DefD} {m qual : Str} {st : Stmt} {N ps : List Str} {k : Nat} {sp : Sp} (hd : hfn[i]? = some d) (e : d = ⟨("Track", some m), m, qual, defArgs st, defBody st, defScope st, [], []⟩) (S : FnScope N ps (defScope st))
    (b : ∀ (kV doc pm : Value) (an : Option Addr) (cdv ct : Value) (us : List Value), us.length = ps.length → bindArgs (PySem.W.fnOf m qual (defArgs st) (defBody st) (defScope st) .none kV doc pm an cdv ct) ⟨us, []⟩ = pure (ps.zip us))
    (len : ∀ vs H Q E, sp vs H Q E → vs.length = ps.length)
    (hbody : ∀ (f : Addr) (cdv : Value) (A : Around) (outer : List Env) (s : Shared) (H : Hp) (vs : List V) (Q : VK) (E : XK), Room k (A.deeper (envOfC qual (defScope st) s.heap.objs.size f cdv)) → sp vs H Q E →
      ∃ t, PSs (cxOf CX0 P w K mg base N qual (defScope st) f cdv A outer s H E).nox (defBody st) t ∧ t { nx := fun _ H' => Q .non H', rt := Q } (start N vs) H) : ∃ fd, FnOk P w K mg base CX0 (k + 1) (He.ma K (TrC K) m) fd ps sp ∧ Binds K fd ps [] := by
  subst e
  obtain ⟨fd, FD⟩ := F.says.def_ i hd
  have FF := He5.fun_of FD
  have bi := FF.binds (ps := ps) b
  exact ⟨fd, FF.ok S len fun cdv A outer s H vs Q E hr h => hbody _ cdv A outer s H vs Q E hr h, bi⟩
def spIsLetter : Sp := fun vs H Q _ => ∃ c : Nat, vs = [.str (sg c)] ∧ 97 ≤ c ∧ c ≤ 122 ∧ Q (.bl true) H
theorem sc_is_letter : FnScope ["thing"] ["thing"] (defScope s_is_letter) := ⟨rfl, rfl, rfl, by decide +kernel, rfl, by decide +kernel, by decide +kernel⟩
theorem letters_has : ∀ k : Fin 26, decide (97 + k.val ∈ ("abcdefghijklmnopqrstuvwxyz" : Str).cps.toList) = true := by decide +kernel
theorem c_is_letter (F : Fx K mg) : C8.Cal P w K mg base 1 "is_letter" spIsLetter [] := by
  refine (F.cal (d := d_is_letter) (k := 0) 2 (j := 2) rfl rfl rfl sc_is_letter (fun _ _ _ _ _ _ us hl => match us, hl with | [_], _ => rfl) (fun vs H Q E h => ?_) (fun f cdv A outer s H vs Q E hr h => ?_))
  · obtain ⟨c, rfl, _⟩ := h; rfl
  · refine ⟨_, (pss_one (ps_ret (pe_and (pe_callB (isi (K := K) rfl) (by rfl) F.isinstance (by decide +kernel) (pa_cons (pv 0) (pa_cons (pe_bltn (v := .ty "str") (u := .type "str") (by rfl) F.str (by decide +kernel) rfl) pa_nil))) (pe_and (pe_cmpR op_eq (pe_callB call_len_str (by rfl) F.len (by decide +kernel) (pa_cons (pv 0) pa_nil)) pe_int (nomark _)) (pe_one (pe_cmpR op_in_sign (pv 0) (C8.pe_gc (by rfl) F.g_LETTERS) rfl)))))), ?_⟩
    obtain ⟨c, rfl, c1, c2, q⟩ := h
    refine ⟨_, rfl, ⟨_, _, _, _, true, rfl, .ty _, .base (.str _), kit_ty (by decide +kernel), true, rfl, iteT ?_⟩⟩
    refine ⟨_, rfl, sg c, rfl, sz (show 1 ≤ 1000 by decide), rfl, _, rfl, iteT ?_⟩
    refine ⟨_, rfl, c, _, rfl, rfl, ?_⟩
    have e := letters_has ⟨c - 97, by omega⟩
    have e2 : 97 + (c - 97) = c := by omega
    simp only [e2] at e
    rw [e]
    exact q
def spAscending (K : PySem.W.Frag) : Sp := fun vs H Q _ => ∃ (v : V) (ars : List A4), vs = [v] ∧ Dp K H v (.tuple (ars.map arD)) ∧ ars.length ≤ 100 ∧ ars.Pairwise A4.lt ∧ ∀ H', Same H H' → Q (.bl true) H'
theorem sc_are_ascending : FnScope ["things", "at"] ["things"] (defScope s_are_ascending) := ⟨rfl, rfl, rfl, by decide +kernel, rfl, by decide +kernel, by decide +kernel⟩
theorem c_are_ascending (F : Fx K mg) : C8.Cal P w K mg base 1 "are_ascending" (spAscending K) [] := by
  refine (F.cal (d := d_are_ascending) (k := 0) 3 (j := 3) rfl rfl rfl sc_are_ascending (fun _ _ _ _ _ _ us hl => match us, hl with | [_], _ => rfl) (fun vs H Q E h => ?_) (fun f cdv A outer s H vs Q E hr h => ?_))
  · obtain ⟨v, ars, rfl, _⟩ := h; rfl
  · refine ⟨_, (pss_one (ps_ret (pe_callB (allL (K := K) rfl rfl) (by rfl) F.all (by decide +kernel) (pa_cons (pe_lc (own := [("at", 1)]) (g := gName 1) rfl sc_are_ascending.nd (pi_range2 (by rfl) F.range (pa_cons pe_int (pa_cons (pe_callB (lenS (K := K) rfl) (by rfl) F.len (by decide +kernel) (pa_cons (pv 0) pa_nil)) pa_nil))) (blkOk_by (own := [("at", 1)]) (N := ["things", "at"]) (sc := defScope s_are_ascending) (by decide +kernel)) (fun _ _ _ _ _ => (pg_name (i := 1) sc_are_ascending.nd rfl (Or.inl rfl))) (fun _ _ _ _ _ => pts_nil) (fun _ _ _ _ _ => (pe_cmpR (ltD (K := K) rfl hr.units) (pe_ix (ixT (K := K) rfl) (pv 0) (pe_op op_sub (pv 1) pe_int) (fun _ _ => rfl)) (pe_ix (ixT (K := K) rfl) (pv 0) (pv 1) (fun _ _ => rfl)) (nomark _)))) pa_nil)))), ?_⟩
    obtain ⟨v, ars, rfl, hv, hl, asc, q⟩ := h
    obtain ⟨a, xs, rfl, ha, hd⟩ := dp_tup hv
    have len := enc_len hd
    refine ⟨_, rfl, a, _, rfl, .inr ha, 1, _, rfl, ⟨by omega, by omega, by omega, by omega⟩, ?_⟩
    refine lcRg (K := K) (fun _ => some (.bool true)) (by omega) (fun a d e => by cases e; exact .bl _) (fun i H2 hi sm2 => ?_) fun D H2 xs hD sm2 hx dx => ?_
    · refine lct_name rfl fun Qy qy => ?_
      have hi1 : i + 1 < ars.length := by omega
      obtain ⟨x1, hx1, d1⟩ := dpAll_get hd (i := i) (d := arD ars[i]) (by rw [List.getElem?_map, List.getElem?_eq_getElem (by omega)]; rfl)
      obtain ⟨x2, hx2, d2⟩ := dpAll_get hd (i := i + 1) (d := arD ars[i + 1]) (by rw [List.getElem?_map, List.getElem?_eq_getElem hi1]; rfl)
      have lt : ars[i].lt ars[i + 1] := List.pairwise_iff_getElem.mp asc i (i + 1) (by omega) hi1 (by omega)
      refine ⟨_, rfl, _, rfl, _, _, rfl, rfl, a, xs, _, x1, rfl, rfl, same_t sm2 ha, ?_, ?_⟩
      · have : (1 : Int) + (i : Nat) - 1 = (i : Int) := by omega
        rw [this]
        exact atI_nat hx1
      · refine ⟨_, rfl, _, rfl, a, xs, _, x2, rfl, rfl, same_t sm2 ha, ?_, ?_⟩
        · have : (1 : Int) + (i : Nat) = ((i + 1 : Nat) : Int) := by omega
          rw [this]
          exact atI_nat hx2
        · refine ⟨_, _, Dp.same sm2 d1, Dp.same sm2 d2, ar_alike _ _, (fun z => nomatch z), ?_, ?_⟩
          · simp [arD, PyData.depth, PyData.depthAll]
          · rw [ar_lt lt]
            exact qy _ _ (Same.refl _) (.bl _)
    · rw [fmB] at dx
      obtain rfl := dpAll_bools dx
      refine ⟨D, _, rfl, SqL.of hx, ?_⟩
      rw [all_yes]
      exact q H2 sm2
def spIsArrow (K : PySem.W.Frag) : Sp := fun vs H Q _ => ∃ (v : V) (a : A4) (n : Nat), vs = [v, .int (n : Int)] ∧ Dp K H v (arD a) ∧ a.p < n ∧ a.y ≤ 9 ∧ a.g < n ∧ 97 ≤ a.c ∧ a.c ≤ 122 ∧ Q (.bl true) H
theorem sc_is_arrow : FnScope ["thing", "places"] ["thing", "places"] (defScope s_is_arrow) := ⟨rfl, rfl, rfl, by decide +kernel, rfl, by decide +kernel, by decide +kernel⟩
theorem c_is_arrow (F : Fx K mg) : C8.Cal P w K mg base 3 "is_arrow" (spIsArrow K) [] := by
  refine (F.cal (d := d_is_arrow) (k := 2) 5 (j := 5) rfl rfl rfl sc_is_arrow (fun _ _ _ _ _ _ us hl => match us, hl with | [_, _], _ => rfl) (fun vs H Q E h => ?_) (fun f cdv A outer s H vs Q E hr h => ?_))
  · obtain ⟨v, a, n, rfl, _⟩ := h; rfl
  · refine ⟨_, (pss_cons (ps_if (PW.pt (pw_or (pt_not (pt_val (pe_callB (isi (K := K) rfl) (by rfl) F.isinstance (by decide +kernel) (pa_cons (pv 0) (pa_cons (pe_bltn (v := .ty "tuple") (u := .type "tuple") (by rfl) F.tuple (by decide +kernel) rfl) pa_nil))))) (pw_or1 (pt_cmpR op_ne (pe_callB (lenS (K := K) rfl) (by rfl) F.len (by decide +kernel) (pa_cons (pv 0) pa_nil)) pe_int (nomark _))))) (pss_one (ps_ret pe_bl)) pss_nil)
      (pss_cons (ps_if (PW.pt (pw_or (pt_not (pt_val (C8.pe_c (c_is_within F) hr (by decide) (by rfl) (pa_cons (pe_ix (ixT (K := K) rfl) (pv 0) pe_int (fun _ _ => rfl)) (pa_cons pe_int (pa_cons (pe_op op_sub (pv 1) pe_int) pa_nil)))))) (pw_or1 (pt_not (pt_val (C8.pe_c (c_is_letter F) hr (by decide) (by rfl) (pa_cons (pe_ix (ixT (K := K) rfl) (pv 0) pe_int (fun _ _ => rfl)) pa_nil))))))) (pss_one (ps_ret pe_bl)) pss_nil)
      (pss_one (ps_ret (pe_and (C8.pe_c (c_is_within F) hr (by decide) (by rfl) (pa_cons (pe_ix (ixT (K := K) rfl) (pv 0) pe_int (fun _ _ => rfl)) (pa_cons pe_int (pa_cons (C8.pe_gc (by rfl) F.g_MOST_PAY) pa_nil)))) (pe_one (C8.pe_c (c_is_within F) hr (by decide) (by rfl) (pa_cons (pe_ix (ixT (K := K) rfl) (pv 0) pe_int (fun _ _ => rfl)) (pa_cons pe_int (pa_cons (pe_op op_sub (pv 1) pe_int) pa_nil)))))))))), ?_⟩
    obtain ⟨v, a, n, rfl, hv, h1, h2, h3, h4, h5, q⟩ := h
    obtain ⟨t, rfl, ht⟩ := ar_tup hv
    refine ⟨_, rfl, ⟨_, _, _, _, true, rfl, .ty _, tyx_t ht, kit_ty (by decide +kernel), true, rfl, iteF ?_⟩⟩
    refine ⟨_, rfl, t, _, rfl, .inr ht, rfl, _, rfl, iteF ?_⟩
    refine ⟨_, rfl, t, _, _, _, rfl, rfl, ht, rfl, _, rfl, _, _, rfl, rfl, _, _, _, rfl, ?_⟩
    rw [decide_eq_true (by omega : (0 : Int) ≤ a.p), decide_eq_true (by omega : (a.p : Int) ≤ n - 1)]
    refine ⟨_, rfl, iteF ?_⟩
    refine ⟨_, rfl, t, _, _, _, rfl, rfl, ht, rfl, a.c, rfl, h4, h5, _, rfl, iteF ?_⟩
    refine ⟨_, rfl, t, _, _, _, rfl, rfl, ht, rfl, _, _, _, rfl, ?_⟩
    rw [decide_eq_true (by omega : (0 : Int) ≤ a.y), decide_eq_true (by omega : (a.y : Int) ≤ 9)]
    refine ⟨_, rfl, iteT ?_⟩
    refine ⟨_, rfl, t, _, _, _, rfl, rfl, ht, rfl, _, rfl, _, _, rfl, rfl, _, _, _, rfl, ?_⟩
    rw [decide_eq_true (by omega : (0 : Int) ≤ a.g), decide_eq_true (by omega : (a.g : Int) ≤ n - 1)]
    exact q
def spAreArrows (K : PySem.W.Frag) : Sp := fun vs H Q _ => ∃ (v : V) (n : Nat) (ars : List A4), vs = [v, .int (n : Int)] ∧ Dp K H v (.tuple (ars.map arD)) ∧ ToldOk n ars ∧ ∀ H', Same H H' → Q (.bl true) H'
theorem sc_are_arrows : FnScope ["thing", "places", "arrow"] ["thing", "places"] (defScope s_are_arrows) := ⟨rfl, rfl, rfl, by decide +kernel, rfl, by decide +kernel, by decide +kernel⟩
theorem c_are_arrows (F : Fx K mg) : C8.Cal P w K mg base 4 "are_arrows" (spAreArrows K) [] := by
  refine (F.cal (d := d_are_arrows) (k := 3) 6 (j := 6) rfl rfl rfl sc_are_arrows (fun _ _ _ _ _ _ us hl => match us, hl with | [_, _], _ => rfl) (fun vs H Q E h => ?_) (fun f cdv A outer s H vs Q E hr h => ?_))
  · obtain ⟨v, n, ars, rfl, _⟩ := h; rfl
  · refine ⟨_, (pss_cons (ps_if (PW.pt (pw_or (pt_not (pt_val (pe_callB (isi (K := K) rfl) (by rfl) F.isinstance (by decide +kernel) (pa_cons (pv 0) (pa_cons (pe_bltn (v := .ty "tuple") (u := .type "tuple") (by rfl) F.tuple (by decide +kernel) rfl) pa_nil))))) (pw_or1 (pt_not (pt_chain op_le op_le pe_int (pe_callB (lenS (K := K) rfl) (by rfl) F.len (by decide +kernel) (pa_cons (pv 0) pa_nil)) (C8.pe_gc (by rfl) F.g_MOST_ARROWS)))))) (pss_one (ps_ret pe_bl)) pss_nil)
      (pss_one (ps_ret (pe_and (pe_callB (allL (K := K) rfl rfl) (by rfl) F.all (by decide +kernel) (pa_cons (pe_lc (own := [("arrow", 2)]) (g := gName 2) rfl sc_are_arrows.nd (piT (K := K) rfl (pv 0)) (blkOk_by (own := [("arrow", 2)]) (N := ["thing", "places", "arrow"]) (sc := defScope s_are_arrows) (by decide +kernel)) (fun _ _ _ _ _ => (pg_name (i := 2) sc_are_arrows.nd rfl (Or.inl rfl))) (fun _ _ _ _ _ => pts_nil) (fun _ _ _ _ _ => (C8.pe_c (c_is_arrow F) hr (by decide) (by rfl) (pa_cons (pv 2) (pa_cons (pv 1) pa_nil))))) pa_nil)) (pe_one (C8.pe_c (c_are_ascending F) hr (by decide) (by rfl) (pa_cons (pv 0) pa_nil))))))), ?_⟩
    obtain ⟨v, n, ars, rfl, hv, ok, q⟩ := h
    have l1 := ok.one
    have l2 := ok.len
    obtain ⟨a, xs, rfl, ha, hd⟩ := dp_tup hv
    have len := enc_len hd
    refine ⟨_, rfl, ⟨_, _, _, _, true, rfl, .ty _, tyx_t ha, kit_ty (by decide +kernel), true, rfl, iteF ?_⟩⟩
    refine ⟨_, rfl, a, _, rfl, .inr ha, _, _, rfl, rfl, _, rfl, ?_⟩
    rw [decide_eq_true (by omega : (1 : Int) ≤ (xs.length : Nat))]
    refine iteT ?_
    refine ⟨_, _, rfl, rfl, _, rfl, ?_⟩
    rw [decide_eq_true (by omega : ((xs.length : Nat) : Int) ≤ 60)]
    refine iteF ?_
    refine ⟨_, rfl, ?_⟩
    refine lcT (K := K) (enc := arD) hv (fun _ => some (.bool true)) (by omega) (fun a d e => by cases e; exact .bl _) (fun o x H2 ho sm dx => ?_) fun D H2 xs hD sm hx dx => ?_
    · refine lct_name rfl fun Qy qy => ?_
      obtain ⟨h1, h2, h3, h4, h5⟩ := ok.arr o ho
      exact ⟨_, rfl, _, rfl, x, o, n, rfl, dx, h1, h2, h3, h4, h5, qy _ _ (Same.refl _) (.bl _)⟩
    · rw [fmB] at dx
      obtain rfl := dpAll_bools dx
      refine ⟨D, _, rfl, SqL.of hx, ?_⟩
      rw [all_yes]
      refine ⟨_, rfl, iteT ?_⟩
      exact ⟨_, rfl, _, ars, rfl, Dp.same sm hv, by omega, ok.asc, fun H3 sm3 => q H3 (sm.trans sm3)⟩
def spKeep (K : PySem.W.Frag) : Sp := fun vs H Q _ => ∃ (x dx : Addr) (n : Nat) (v : V) (ars : List A4), vs = [.ref x, .int (n : Int), v] ∧ H x = some (.ins (TrC K) dx []) ∧ Dp K H v (.tuple (ars.map arD)) ∧ ToldOk n ars ∧
  ∀ H', SameX x H H' → TrAt K H' (.ref x) (trk n ars) → Q .non H'
theorem sqT_sx {H H' : Hp} {x a : Addr} {xs : List V} (hx : NoTup H x) (s : SameX x H H') (h : SqT K H a xs) : SqT K H' a xs := by
  rcases h with (h | ⟨o, h⟩) | h
  · exact .inl (.inl (s a _ (fun e => by rw [e] at h; exact (hx _).1 h) h))
  · exact .inl (.inr ⟨o, s a _ (fun e => by rw [e] at h; exact (hx _).2 _ h) h⟩)
  · exact .inr h
mutual
theorem Dp.sx {H H' : Hp} {x : Addr} (hx : NoTup H x) (s : SameX x H H') : ∀ {d : PyData}, NL d → ∀ {v : V}, Dp K H v d → Dp K H' v d
  | _, .non, _, .non => .non
  | _, .bl b, _, .bl _ => .bl b
  | _, .int i, _, .int _ => .int i
  | _, .str x, _, .str _ => .str x
  | _, .tup l, _, .tup h t => .tup (sqT_sx hx s h) (DpAll.sx hx s l t)
theorem DpAll.sx {H H' : Hp} {x : Addr} (hx : NoTup H x) (s : SameX x H H') : ∀ {ds : List PyData}, NLs ds → ∀ {vs : List V}, DpAll K H vs ds → DpAll K H' vs ds
  | _, .nil, _, .nil => .nil
  | _, .cons h t, _, .cons a b => .cons (Dp.sx hx s h a) (DpAll.sx hx s t b)
end
/-- the lists at as, by place -/
structure KpAt (K : PySem.W.Frag) (H : Hp) (n : Nat) (as : List Addr) (ss : Nat → List Arw) : Prop where
  len : as.length = n
  nd : as.Nodup
  at_ : ∀ p b, as[p]? = some b → ∃ xs, H b = some (.lst xs) ∧ DpAll K H xs ((ss p).map stepD)
def fs2 (n : Nat) (v : V) : List (Str × V) := [("places", .int (n : Int)), ("arrows", v)]
def fs3 (n : Nat) (v : V) (D : Addr) : List (Str × V) := [("places", .int (n : Int)), ("arrows", v), ("kept_arrows", .ref D)]
theorem put2 (n : Nat) (v : V) : putF "arrows" v (putF "places" (.int (n : Int)) []) = fs2 n v := by
  have h : ¬ (("places" : Str) = "arrows") := by decide +kernel
  simp [putF, fs2, h]
theorem put3 (n : Nat) (v : V) (D : Addr) : putF "kept_arrows" (.ref D) (fs2 n v) = fs3 n v D := by
  have h : ¬ (("places" : Str) = "kept_arrows") := by decide +kernel
  have h2 : ¬ (("arrows" : Str) = "kept_arrows") := by decide +kernel
  simp [putF, fs2, fs3, h, h2]
def KpInv (K : PySem.W.Frag) (H0 : Hp) (x dx D : Addr) (n : Nat) (v : V) (ars : List A4) (as : List Addr) (i : Nat) (σ : L2.St) (H : Hp) : Prop := ∃ (p3 p4 p5 p6 : Option V), σ = [some (.ref x), some (.int (n : Int)), some v, p3, p4, p5, p6] ∧ SameX x H0 H ∧ H x = some (.ins (TrC K) dx (fs3 n v D)) ∧
  H D = some (.lst (as.map V.ref)) ∧ KpAt K H n as (fun p => ((ars.take i).filter fun a => decide (a.p = p)).map arw) ∧ Dp K H v (.tuple (ars.map arD))
theorem sc_Tkeep : FnScope ["self", "places", "arrows", "place", "letter", "pay", "goal"] ["self", "places", "arrows"] (defScope s_Tkeep) := ⟨rfl, rfl, rfl, by decide +kernel, rfl, by decide +kernel, by decide +kernel⟩
theorem k_keep (F : Fx K mg) : ∃ fd, FnOk P w K mg base CX0 1 (He.ma K (TrC K) "keep") fd ["self", "places", "arrows"] (spKeep K) ∧ Binds K fd ["self", "places", "arrows"] [] := by
  refine F.fnm (P := P) (w := w) (base := base) (d := d_Tkeep) (k := 0) (sp := spKeep K) 8 rfl rfl sc_Tkeep (fun _ _ _ _ _ _ us hl => match us, hl with | [_, _, _], _ => rfl) (fun vs H Q E h => ?_) (fun f cdv A outer s H vs Q E hr h => ?_)
  · obtain ⟨x, dx, n, v, ars, rfl, _⟩ := h; rfl
  · refine ⟨_, (pss_cons (ps_fld (pv 0) (pv 1) rfl)
      (pss_cons (ps_fld (pv 0) (pv 2) rfl)
      (pss_cons (ps_fld (pv 0) (pe_lc (own := [("place", 3)]) (g := gName 3) rfl sc_Tkeep.nd (pi_range1 (by rfl) F.range (pa_cons (pv 1) pa_nil)) (blkOk_by (own := [("place", 3)]) (N := ["self", "places", "arrows", "place", "letter", "pay", "goal"]) (sc := defScope s_Tkeep) (by decide +kernel)) (fun _ _ _ _ _ => (pg_name (i := 3) sc_Tkeep.nd rfl (Or.inl rfl))) (fun _ _ _ _ _ => pts_nil) (fun _ _ _ _ _ => (pe_lst pa_nil))) rfl)
      (pss_one (ps_for PassesOwn.never rfl (piT (K := K) rfl (pv 2)) (tupK (K := K) (n := 4) rfl rfl (pgs_cons (pg_name (i := 3) sc_Tkeep.nd rfl (Or.inl rfl)) (pgs_cons (pg_name (i := 4) sc_Tkeep.nd rfl (Or.inl rfl)) (pgs_cons (pg_name (i := 5) sc_Tkeep.nd rfl (Or.inl rfl)) (pgs_cons (pg_name (i := 6) sc_Tkeep.nd rfl (Or.inl rfl)) pgs_nil))))) (pss_one (ps_expr (pe_bm PySem.F.plainAttrs_list PySem.F.slot_list_append PySem.F.type_list_append mt_append (pe_ix (ixL (K := K) rfl) (fldK (K := K) rfl (pv 0) rfl) (pv 3) (fun _ _ => rfl)) (pa_cons (pe_tup (pa_cons (pv 4) (pa_cons (pv 5) (pa_cons (pv 6) pa_nil)))) pa_nil))))))))), ?_⟩
    obtain ⟨x, dx, n, v, ars, rfl, hx, hv, ok, q⟩ := h
    have n12 := ok.few
    have l48 := ok.len
    refine ⟨_, rfl, _, rfl, x, _, dx, _, rfl, hx, F.cls, F.no_places, by decide, ?_⟩
    refine ⟨_, rfl, _, rfl, x, _, dx, _, rfl, upd_same, F.cls, F.no_arrows, show 1 < 1000 by decide, ?_⟩
    rw [put2]
    generalize hH2 : upd (upd H x (.ins (TrC K) dx (putF "places" (.int (n : Int)) []))) x (.ins (TrC K) dx (fs2 n v)) = H2
    have sx2 : SameX x H H2 := by rw [← hH2]; exact SameX.refl.put.put
    have hx2 : H2 x = some (.ins (TrC K) dx (fs2 n v)) := by rw [← hH2, upd_same]
    have nl : NL (.tuple (ars.map arD)) := .tup (nls_of fun d hd => by obtain ⟨a, _, rfl⟩ := List.mem_map.mp hd; exact nl_ar a)
    have hv2 : Dp K H2 v (.tuple (ars.map arD)) := Dp.sx (noTup_ins hx) sx2 nl hv
    refine ⟨_, rfl, _, rfl, by omega, by omega, fun D hD => ?_⟩
    have nDx : D ≠ x := fun z => by rw [z, hx2] at hD; cases hD
    have n1 : ((n : Nat) : Int).toNat = n := by omega
    rw [n1]
    refine lc_it walk_range (fun i H3 => Same H2 H3 ∧ ∃ as : List Addr, as.length = i ∧ H3 D = some (.lst (as.map V.ref)) ∧ as.Nodup ∧ ∀ b ∈ as, H3 b = some (.lst []) ∧ H2 b = none ∧ b ≠ D) ⟨same_new hD, [], rfl, upd_same, List.nodup_nil, by simp⟩ (fun _ _ _ _ => True.intro) (fun i y H3 H4 hi h yy => ?_) fun H3 h => ?_
    · obtain ⟨rfl, rfl⟩ := yy
      obtain ⟨sm, as, al, hD3, nd, each⟩ := h
      refine ⟨rfl, ?_⟩
      unfold tYes
      refine ite2 (fun _ => ?_) fun c => absurd rfl c
      refine ⟨sz (by simp), fun b hb => ?_⟩
      have nbD : b ≠ D := fun z => by rw [z, hD3] at hb; cases hb
      have nb : b ∉ as := fun z => by rw [(each b z).1] at hb; cases hb
      refine ⟨as.map V.ref, (upd_ne nbD.symm).trans hD3, by rw [List.length_map, al]; exact small1000 (by omega), same_mut (sm.trans (same_new hb)) hD, as ++ [b], by rw [List.length_append, al]; rfl, by rw [upd_same, List.map_append]; rfl, ?_, fun c hc => ?_⟩
      · rw [List.nodup_append]
        exact ⟨nd, nod1 _, fun x hx y hy z => nb (by rw [List.mem_singleton.mp hy] at z; rw [← z]; exact hx)⟩
      · rcases List.mem_append.mp hc with z | z
        · obtain ⟨e1, e2, e3⟩ := each c z
          exact ⟨(upd_ne e3).trans ((upd_ne fun y => nb (by rw [← y]; exact z)).trans e1), e2, e3⟩
        · rw [List.mem_singleton.mp z]
          exact ⟨(upd_ne nbD).trans upd_same, none_back sm hb, nbD⟩
    · obtain ⟨sm, as, al, hD3, nd, each⟩ := h
      have hx3 := sm _ _ hx2
      refine ⟨_, rfl, x, _, dx, _, rfl, hx3, F.cls, F.no_kept_arrows, show 2 < 1000 by decide, ?_⟩
      rw [put3]
      have nax : ∀ b ∈ as, b ≠ x := fun b hb z => by
        have := (each b hb).2.1
        rw [z, hx2] at this
        cases this
      have fr0 : ∀ b, H2 b = none → H b = none := fun b hb => by
        cases e : H b with
        | none => rfl
        | some u =>
          by_cases c : b = x
          · rw [c, hx2] at hb; cases hb
          · rw [sx2 b u c e] at hb; cases hb
      have hD0 := fr0 D hD
      have has0 : ∀ b ∈ as, H b = none := fun b hb => fr0 b (each b hb).2.1
      have sx4 : SameX x H (upd H3 x (.ins (TrC K) dx (fs3 n v D))) := (sx2.same sm).put
      have hv4 : Dp K (upd H3 x (.ins (TrC K) dx (fs3 n v D))) v (.tuple (ars.map arD)) := Dp.sx (noTup_ins hx) sx4 nl hv
      refine ⟨_, rfl, ?_⟩
      refine forT (K := K) (enc := arD) hv4 (KpInv K H x dx D n v ars as) ⟨_, _, _, _, rfl, sx4, upd_same, (upd_ne nDx).trans hD3, ⟨al, nd, fun p b hb => ⟨[], (upd_ne (nax b (List.mem_of_getElem? hb))).trans (each b (List.mem_of_getElem? hb)).1, by simp; exact .nil⟩⟩, hv4⟩ (fun i σ H5 h => ?_) (fun i a y σ H5 hi dy h => ?_) fun σ H5 h => ?_
      · obtain ⟨_, _, _, _, _, _, _, _, _, d⟩ := h
        exact d
      · obtain ⟨p3, p4, p5, p6, rfl, sx5, hx5, hD5, kp, hv5⟩ := h
        obtain ⟨t, rfl, ht⟩ := ar_tup dy
        obtain ⟨a1, a2, a3, a4, a5⟩ := ok.arr a (List.mem_of_getElem? hi)
        have tk : ars.take (i + 1) = ars.take i ++ [a] := by rw [List.take_succ, hi]; rfl
        have lp : a.p < as.length := by rw [al]; exact a1
        have hb := List.getElem?_eq_getElem lp
        have hbm := List.getElem_mem lp
        generalize as[a.p] = b at hb hbm
        obtain ⟨xs, hxs, dxs⟩ := kp.at_ a.p b hb
        refine ⟨t, _, rfl, ht, rfl, _, _, rfl, _, _, rfl, _, _, rfl, _, _, rfl, rfl, ?_⟩
        refine ⟨_, rfl, x, _, dx, _, _, rfl, hx5, F.cls, F.no_kept_arrows, rfl, _, rfl, D, _, _, .ref b, rfl, rfl, SqL.of hD5, atI_nat (by rw [List.getElem?_map, hb]; rfl), ?_⟩
        refine ⟨.inl ⟨rfl, _, SqL.of hxs⟩, _, rfl, _, rfl, _, rfl, sz (by simp), fun t2 ht2 => ?_⟩
        have nbt : b ≠ t2 := fun z => by rw [← z, hxs] at ht2; cases ht2
        have nb1 : ∀ {c : Addr} {u : HO}, H5 c = some u → c ≠ t2 := fun e z => by rw [z, ht2] at e; cases e
        have hxs2 : upd H5 t2 (.tup [.str (sg a.c), .int (a.y : Int), .int (a.g : Int)]) b = some (.lst xs) := (upd_ne nbt).trans hxs
        have hb0 := has0 b hbm
        have nbx := nax b hbm
        have nbD := (each b hbm).2.2
        have xl : xs.length ≤ 1000 := by
          have := enc_len dxs
          rw [this, List.length_map]
          refine Nat.le_trans (List.length_filter_le _ _) ?_
          rw [List.length_take]; omega
        refine ⟨b, xs, _, rfl, rfl, hxs2, small1000 xl, _, _, _, _, rfl, ?_, ?_, ?_, ⟨al, nd, fun p c hc => ?_⟩, ?_⟩
        · exact fun c u e hc => (upd_ne (ne_of_none hc hb0)).trans ((upd_ne (nb1 (sx5 c u e hc))).trans (sx5 c u e hc))
        · exact (upd_ne nbx.symm).trans ((upd_ne (nb1 hx5)).trans hx5)
        · exact (upd_ne nbD.symm).trans ((upd_ne (nb1 hD5)).trans hD5)
        · have nls : ∀ l : List Arw, NLs (l.map stepD) := fun l => nls_of fun d hd => by obtain ⟨s, _, rfl⟩ := List.mem_map.mp hd; exact nl_step s
          obtain ⟨ys, hys, dys⟩ := kp.at_ p c hc
          show ∃ zs, _ ∧ DpAll K _ zs ((((ars.take (i + 1)).filter fun a => decide (a.p = p)).map arw).map stepD)
          rw [tk, List.filter_append]
          by_cases e : p = a.p
          · subst e
            rw [hb] at hc
            cases hc
            rw [hxs] at hys
            cases hys
            have : [a].filter (fun q => decide (q.p = a.p)) = [a] := by simp
            rw [this, List.map_append, List.map_append]
            refine ⟨_, upd_same, DpAll.mut (noTup_lst hxs2) (nls_of fun d hd => ?_) (dpAll_snoc (DpAll.same (same_new ht2) dxs) (.tup (SqT.of upd_same) (.cons (.str _) (.cons (.int _) (.cons (.int _) .nil)))))⟩
            rcases List.mem_append.mp hd with z | z
            · obtain ⟨s, _, rfl⟩ := List.mem_map.mp z; exact nl_step s
            · rw [List.mem_singleton.mp z]; exact nl_step (arw a)
          · have : [a].filter (fun q => decide (q.p = p)) = [] := by simp; exact fun z => e z.symm
            rw [this, List.append_nil]
            have ncb : c ≠ b := fun z => by
              obtain ⟨l1, e1⟩ := List.getElem?_eq_some_iff.mp hc
              obtain ⟨l2, e2⟩ := List.getElem?_eq_some_iff.mp hb
              exact e ((List.getElem_inj nd).mp (e1.trans (z.trans e2.symm)))
            exact ⟨ys, (upd_ne ncb).trans ((upd_ne (nb1 hys)).trans hys), DpAll.mut (noTup_lst hxs2) (nls _) (DpAll.same (same_new ht2) dys)⟩
        · exact Dp.mut (noTup_lst hxs2) nl (Dp.same (same_new ht2) hv5)
      · obtain ⟨p3, p4, p5, p6, rfl, sx5, hx5, hD5, kp, hv5⟩ := h
        rw [List.take_length] at kp
        refine q H5 sx5 ⟨x, dx, _, _, rfl, hx5, ?_, rfl, .lst (SqL.of hD5) ?_⟩
        · rw [trk_len]; rfl
        · have gen : ∀ (l : List Addr) (k : Nat), (∀ p b, l[p]? = some b → ∃ xs, H5 b = some (.lst xs) ∧ DpAll K H5 xs ((((ars.filter fun a => decide (a.p = k + p)).map arw)).map stepD)) → DpAll K H5 (l.map V.ref) (((List.range' k l.length).map fun p => (ars.filter fun a => decide (a.p = p)).map arw).map stepsD) := by
            intro l
            induction l with
            | nil => intro k _; exact .nil
            | cons b l ih =>
              intro k h
              obtain ⟨xs, h1, h2⟩ := h 0 b rfl
              rw [List.length_cons, List.range'_succ]
              refine .cons (.lst (SqL.of h1) h2) (ih (k + 1) fun p c hc => ?_)
              have := h (p + 1) c hc
              have e : k + 1 + p = k + (p + 1) := by omega
              rw [e]
              exact this
          have := gen as 0 (fun p b hb => by have := kp.at_ p b hb; rw [Nat.zero_add]; exact this)
          rw [al, ← List.range_eq_range'] at this
          exact this
theorem c_keep (F : Fx K mg) : C8.Met P w K mg base 1 (TrC K) "keep" (spKeep K) [] :=
  let ⟨fd, ok, bi⟩ := k_keep (P := P) (w := w) (base := base) F
  ⟨_, fd, _, [], F.cls, F.meth, ok, bi, .nil⟩
end
end K68
set_option maxRecDepth 100000
set_option maxHeartbeats 400000
namespace K68
open PySem PySem.Spec PyProof.Rows L2
def key2 (a : A4) : List Key := [Sum.inl (a.p : Int), Sum.inr (sg a.c)]
theorem key2_ne {a b : A4} (h : a.lt b) : key2 a ≠ key2 b := fun e => by
  have e1 := Sum.inl.inj (List.cons.inj e).1
  have e2 := Sum.inr.inj (List.cons.inj (List.cons.inj e).2).1
  have e3 : a.c = b.c := by
    unfold sg at e2
    simpa using e2
  unfold A4.lt at h
  omega
def kv2 (l : List A4) : List (List Key × V) := l.map fun a => (key2 a, .bl true)
theorem kv2_put {l : List A4} {b : A4} (h : ∀ a ∈ l, a.lt b) : putK (kv2 l) (key2 b) (.bl true) = kv2 (l ++ [b]) := by
  rw [putK_new]
  · unfold kv2; rw [List.map_append]; rfl
  · unfold kv2
    induction l with
    | nil => rfl
    | cons a l ih =>
      rw [List.map_cons, valV_neg (key2_ne (h a (List.mem_cons_self)))]
      exact ih fun x hx => h x (List.mem_cons_of_mem _ hx)
section
variable {P : Program} {w : World} {K : PySem.W.Frag} {mg : Str → Option Value} {base : Heap}
theorem sc_Tinit : FnScope ["self", "places", "arrows", "arrow"] ["self", "places", "arrows"] (defScope s_Tinit) := ⟨rfl, rfl, rfl, by decide +kernel, rfl, by decide +kernel, by decide +kernel⟩
theorem k_track (F : Fx K mg) : ∃ fd, FnOk P w K mg base CX0 5 (He.ma K (TrC K) "__init__") fd ["self", "places", "arrows"] (spKeep K) ∧ Binds K fd ["self", "places", "arrows"] [] := by
  refine F.fnm (P := P) (w := w) (base := base) (d := d_Tinit) (k := 4) (sp := spKeep K) 7 rfl rfl sc_Tinit (fun _ _ _ _ _ _ us hl => match us, hl with | [_, _, _], _ => rfl) (fun vs H Q E h => ?_) (fun f cdv A outer s H vs Q E hr h => ?_)
  · obtain ⟨x, dx, n, v, ars, rfl, _⟩ := h; rfl
  · refine ⟨_, (pss_cons (ps_if (pt_not (pt_val (C8.pe_c (c_is_within F) hr (by decide) (by rfl) (pa_cons (pv 1) (pa_cons pe_int (pa_cons (C8.pe_gc (by rfl) F.g_MOST_PLACES) pa_nil)))))) pss_never pss_nil)
      (pss_cons (ps_if (pt_not (pt_val (C8.pe_c (c_are_arrows F) hr (by decide) (by rfl) (pa_cons (pv 2) (pa_cons (pv 1) pa_nil))))) pss_never pss_nil)
      (pss_cons (ps_if (pt_cmpR op_lt (pe_callB call_len_dT (by rfl) F.len (by decide +kernel) (pa_cons (pe_dg (o := .dT []) (r := rPutT) (own := [("arrow", 3)]) (g := gName 3) okT (putR_T (hu_of hr)) rfl sc_Tinit.nd (piT (K := K) rfl (pv 2)) (blkOk_by (own := [("arrow", 3)]) (N := ["self", "places", "arrows", "arrow"]) (sc := defScope s_Tinit) (by decide +kernel)) (fun _ _ _ _ _ => (pg_name (i := 3) sc_Tinit.nd rfl (Or.inl rfl))) (fun _ _ _ _ _ => pts_nil) (fun _ _ _ _ _ => (pe_slice (slT (K := K) rfl) (pv 3) po_none (po_some pe_int))) (fun _ _ _ _ _ => pe_bl)) pa_nil)) (pe_callB (lenS (K := K) rfl) (by rfl) F.len (by decide +kernel) (pa_cons (pv 2) pa_nil)) (nomark _)) pss_never pss_nil)
      (pss_cons (ps_if (pt_cmpR op_lt (pe_callB call_lenD (by rfl) F.len (by decide +kernel) (pa_cons (pe_dg (o := .dK []) (r := rPutK) (own := [("arrow", 3)]) (g := gName 3) okK putR_K rfl sc_Tinit.nd (piT (K := K) rfl (pv 2)) (blkOk_by (own := [("arrow", 3)]) (N := ["self", "places", "arrows", "arrow"]) (sc := defScope s_Tinit) (by decide +kernel)) (fun _ _ _ _ _ => (pg_name (i := 3) sc_Tinit.nd rfl (Or.inl rfl))) (fun _ _ _ _ _ => pts_nil) (fun _ _ _ _ _ => (pe_ix (ixT (K := K) rfl) (pv 3) pe_int (fun _ _ => rfl))) (fun _ _ _ _ _ => pe_bl)) pa_nil)) (pv 1) (nomark _)) pss_never pss_nil)
      (pss_one (ps_expr (C8.pe_mt (c_keep F) hr (by decide) (pv 0) (pa_cons (pv 1) (pa_cons (pv 2) pa_nil))))))))), ?_⟩
    obtain ⟨x, dx, n, v, ars, rfl, hx, hv, ok, q⟩ := h
    have n1 := ok.pos
    have n12 := ok.few
    have l48 := ok.len
    refine ⟨_, rfl, _, _, _, rfl, ?_⟩
    rw [decide_eq_true (by omega : (1 : Int) ≤ n), decide_eq_true (by omega : (n : Int) ≤ 12)]
    refine ⟨_, rfl, iteF ?_⟩
    refine ⟨_, rfl, _, rfl, v, n, ars, rfl, hv, ok, fun H1 sm1 => ?_⟩
    refine ⟨_, rfl, iteF ?_⟩
    obtain ⟨a, xs, rfl, ha, hd⟩ := dp_tup hv
    have len := enc_len hd
    have rd : ∀ (H2 : Hp) (i : Nat) (y : V), SqT K H2 a xs → xs[i]? = some y → Same H H2 → ∃ b, ars[i]? = some b ∧ ∃ t, y = .ref t ∧ SqT K H2 t [.int (b.p : Int), .str (sg b.c), .int (b.y : Int), .int (b.g : Int)] := fun H2 i y _ hy sm => by
      obtain ⟨b, hb, db⟩ := enc_get hd hy
      obtain ⟨t, e, ht⟩ := ar_tup (Dp.same sm db)
      exact ⟨b, hb, t, e, ht⟩
    refine ⟨_, rfl, a, rfl, ⟨xs, same_t sm1 ha⟩, fun D hD => ?_⟩
    refine dg_it (o := .dT []) (r := rPutT) (walk_tup (K := K) (a := a) (xs := xs)) (fun i H2 => Same H1 H2 ∧ H2 D = some (.dT (kv2 (ars.take i)))) ⟨same_new hD, upd_same⟩ (fun i H2 _ h => same_t (sm1.trans h.1) ha) (fun i y H2 H3 hi h yy => ?_) fun H2 h => ?_
    · obtain ⟨rfl, hy⟩ := yy
      obtain ⟨sm2, hD2⟩ := h
      obtain ⟨b, hb, t, rfl, ht⟩ := rd H3 i y (same_t (sm1.trans sm2) ha) hy (sm1.trans sm2)
      have tk : ars.take (i + 1) = ars.take i ++ [b] := by rw [List.take_succ, hb]; rfl
      refine ⟨rfl, ?_⟩
      unfold tYes
      refine ite2 (fun _ => ?_) fun c => absurd rfl c
      refine ⟨_, rfl, _, rfl, t, _, rfl, ht, show ¬ (HT.sIx 4 0 none = 0 ∧ HT.sIx 4 4 (some 2) = 4) by decide, fun p hp => ?_⟩
      have nDp : D ≠ p := fun z => by rw [z, hp] at hD2; cases hD2
      refine ⟨_, key2 b, p, rfl, upd_same.trans rfl, (upd_ne nDp).trans hD2, ?_, same_mut (sm2.trans (same_new hp)) hD, ?_⟩
      · unfold kv2; rw [List.length_map, List.length_take]; exact small1000 (by omega)
      · rw [upd_same, kv2_put, ← tk]
        intro c hc
        have pw : (ars.take (i + 1)).Pairwise A4.lt := ok.asc.sublist (List.take_sublist _ _)
        rw [tk, List.pairwise_append] at pw
        exact pw.2.2 c hc b (List.mem_singleton.mpr rfl)
    · obtain ⟨sm2, hD2⟩ := h
      have sm02 := sm1.trans sm2
      refine ⟨D, _, rfl, hD2, ?_⟩
      refine ⟨_, rfl, a, _, rfl, .inr (same_t sm02 ha), _, _, rfl, rfl, _, rfl, ?_⟩
      have e : ((kv2 (ars.take xs.length)).length : Int) = (xs.length : Nat) := by unfold kv2; rw [List.length_map, List.length_take, len, Nat.min_self]
      rw [e, decide_eq_false (by omega)]
      refine iteF ?_
      refine ⟨_, rfl, a, rfl, ⟨xs, same_t sm02 ha⟩, fun D3 hD3 => ?_⟩
      refine dg_it (o := .dK []) (r := rPutK) (walk_tup (K := K) (a := a) (xs := xs)) (fun i H3 => Same H2 H3 ∧ ∃ kvs, H3 D3 = some (.dK kvs) ∧ kvs.length ≤ i ∧ ∀ b ∈ ars.take i, (valV kvs (Sum.inl (b.p : Int))).isSome = true) ⟨same_new hD3, [], upd_same, Nat.le_refl _, by simp⟩ (fun i H3 _ h => same_t (sm02.trans h.1) ha) (fun i y H3 H4 hi h yy => ?_) fun H3 h => ?_
      · obtain ⟨rfl, hy⟩ := yy
        obtain ⟨sm3, kvs, hk, kl, has⟩ := h
        obtain ⟨b, hb, t, rfl, ht⟩ := rd H4 i y (same_t (sm02.trans sm3) ha) hy (sm02.trans sm3)
        have tk : ars.take (i + 1) = ars.take i ++ [b] := by rw [List.take_succ, hb]; rfl
        refine ⟨rfl, ?_⟩
        unfold tYes
        refine ite2 (fun _ => ?_) fun c => absurd rfl c
        refine ⟨_, rfl, t, _, _, _, rfl, rfl, ht, rfl, kvs, Sum.inl (b.p : Int), rfl, hk, small1000 (by omega), same_mut sm3 hD3, _, upd_same, ?_, fun c hc => ?_⟩
        · have := length_putK kvs (Sum.inl (b.p : Int)) (.bl true)
          omega
        · rw [valV_put]
          by_cases e : (Sum.inl (c.p : Int) : Key) = Sum.inl (b.p : Int)
          · rw [if_pos e]; rfl
          · rw [if_neg e]
            rw [tk] at hc
            rcases List.mem_append.mp hc with z | z
            · exact has c z
            · rw [List.mem_singleton.mp z] at e
              exact absurd rfl e
      · obtain ⟨sm3, kvs, hk, kl, has⟩ := h
        have sm03 := sm02.trans sm3
        rw [len, List.take_length] at has
        refine ⟨D3, _, rfl, hk, ?_⟩
        refine ⟨_, rfl, _, _, rfl, rfl, _, rfl, ?_⟩
        have big : n ≤ kvs.length := by
          have sub : ∀ k ∈ (List.range n).map (fun p : Nat => (Sum.inl (p : Int) : Key)), k ∈ kvs.map (·.1) := fun k hk => by
            obtain ⟨p, hp, rfl⟩ := List.mem_map.mp hk
            obtain ⟨b, hb, rfl⟩ := ok.all p (List.mem_range.mp hp)
            have := has b hb
            rw [← valV_any, List.any_eq_true] at this
            obtain ⟨kv, h1, h2⟩ := this
            exact List.mem_map.mpr ⟨kv, h1, of_decide_eq_true h2⟩
          have nd : ((List.range n).map (fun p : Nat => (Sum.inl (p : Int) : Key))).Nodup := by
            refine List.Pairwise.map _ (fun a b ne e => ne ?_) List.nodup_range
            have := Sum.inl.inj e
            omega
          have := nd.length_le_of_subset sub
          rw [List.length_map, List.length_map, List.length_range] at this
          exact this
        rw [decide_eq_false (by omega)]
        refine iteF ?_
        refine ⟨_, rfl, x, dx, _, rfl, sm03 _ _ hx, rfl, ?_⟩
        exact ⟨_, rfl, _, rfl, x, dx, n, _, ars, rfl, sm03 _ _ hx, Dp.same sm03 hv, ok, fun H4 sx tr => q H4 (fun b u e hb => sx b u e (sm03 b u hb)) tr⟩
theorem c_Track (F : Fx K mg) : C8.Mak P w K mg base 5 "Track" (TrC K) (spKeep K) [] :=
  let ⟨fd, ok, bi⟩ := k_track (P := P) (w := w) (base := base) F
  ⟨_, fd, _, [], F.mkr, ok, F.track, bi, .nil⟩
/-- what is told, as data -/
def toldD (n : Nat) (ars : List A4) : PyData := .tuple [.int (n : Int), .tuple (ars.map arD)]
theorem nl_told (n : Nat) (ars : List A4) : NL (toldD n ars) := .tup (.cons (.int _) (.cons (.tup (nls_of fun d hd => by obtain ⟨a, _, rfl⟩ := List.mem_map.mp hd; exact nl_ar a)) .nil))
theorem told_tup {H : Hp} {x : V} {n : Nat} {ars : List A4} (h : Dp K H x (toldD n ars)) : ∃ t y, x = .ref t ∧ SqT K H t [.int (n : Int), y] ∧ Dp K H y (.tuple (ars.map arD)) := by
  obtain ⟨t, ys, rfl, ht, hy⟩ := dp_tup h
  obtain ⟨x1, r, rfl, h1, hy⟩ := dpAll_cons hy
  obtain ⟨x2, r, rfl, h2, hy⟩ := dpAll_cons hy
  obtain rfl := dpAll_nil hy
  rw [dp_int h1] at ht
  exact ⟨t, x2, rfl, ht, h2⟩
def spLawTrack (K : PySem.W.Frag) : Sp := fun vs H Q _ => ∃ (v : V) (n : Nat) (ars : List A4), vs = [v] ∧ Dp K H v (toldD n ars) ∧ ToldOk n ars ∧ ∀ H' x, Same H H' → TrAt K H' x (trk n ars) → Q x H'
theorem sc_law_track : FnScope ["_law_told_here"] ["_law_told_here"] (defScope s__law_track) := ⟨rfl, rfl, rfl, by decide +kernel, rfl, by decide +kernel, by decide +kernel⟩
theorem c_law_track (F : Fx K mg) : C8.Cal P w K mg base 7 "_law_track" (spLawTrack K) [] := by
  refine (F.cal (d := d__law_track) (k := 6) 50 (j := 48) rfl rfl rfl sc_law_track (fun _ _ _ _ _ _ us hl => match us, hl with | [_], _ => rfl) (fun vs H Q E h => ?_) (fun f cdv A outer s H vs Q E hr h => ?_))
  · obtain ⟨v, n, ars, rfl, _⟩ := h; rfl
  · refine ⟨_, (pss_one (ps_ret (C8.pe_mk (c_Track F) hr (by decide) (by rfl) (pa_cons (pe_ix (ixT (K := K) rfl) (pv 0) pe_int (fun _ _ => rfl)) (pa_cons (pe_ix (ixT (K := K) rfl) (pv 0) pe_int (fun _ _ => rfl)) pa_nil))))), ?_⟩
    obtain ⟨v, n, ars, rfl, hv, ok, q⟩ := h
    obtain ⟨t, y, rfl, ht, hy⟩ := told_tup hv
    refine ⟨_, rfl, t, _, _, _, rfl, rfl, ht, rfl, _, rfl, t, _, _, _, rfl, rfl, ht, rfl, ?_⟩
    intro x dx hx hdx ne
    have s1 : Same H (upd (upd H dx (.own x)) x (.ins (TrC K) dx [])) := same_mut (same_new hdx) hx
    exact ⟨x, dx, n, y, ars, rfl, upd_same, Dp.same s1 hy, ok, fun H2 sx tr => ⟨rfl, q H2 _ (SameX.join s1 sx hx) tr⟩⟩
end
end K68
set_option maxRecDepth 100000
set_option maxHeartbeats 400000
namespace K68
open PySem PySem.Spec PyProof.Rows L2
theorem cutV_ints (ns : List Int) (lo hi : Option Int) : ∃ ms : List Int, cutV (ns.map V.int) lo hi = ms.map V.int ∧ ms.length ≤ ns.length := by
  refine ⟨_, by unfold cutV; rw [← List.map_drop, ← List.map_take], ?_⟩
  rw [List.length_take, List.length_drop]
  omega
theorem nz1 : (1000003 : Int) ≠ 0 := by decide
theorem nz2 : (2147483647 : Int) ≠ 0 := by decide
theorem nz3 : (2147483629 : Int) ≠ 0 := by decide
theorem nz4 : (2147483399 : Int) ≠ 0 := by decide
theorem fmod_in (i : Int) {m : Int} (h : 0 < m) : 0 ≤ i.fmod m ∧ i.fmod m < m := by
  rw [Int.fmod_eq_emod_of_nonneg _ (by omega)]
  exact ⟨Int.emod_nonneg _ (by omega), Int.emod_lt_of_pos _ h⟩
/-- the pool of drawn digits -/
def Pool (H : Hp) (p c : Addr) : Prop := p ≠ c ∧ ∃ (s k : Int) (cells : List Int), H p = some (.lst [.int s, .int k, .ref c]) ∧ H c = some (.lst (cells.map V.int))
/-- all but the pool -/
def SameP (p c : Addr) (H H' : Hp) : Prop := ∀ b u, b ≠ p → b ≠ c → H b = some u → H' b = some u
theorem SameP.refl {p c : Addr} {H : Hp} : SameP p c H H := fun _ _ _ _ h => h
theorem SameP.trans {p c : Addr} {H H1 H2 : Hp} (a : SameP p c H H1) (b : SameP p c H1 H2) : SameP p c H H2 := fun d u h1 h2 e => b d u h1 h2 (a d u h1 h2 e)
theorem SameP.of {p c : Addr} {H H' : Hp} (s : Same H H') : SameP p c H H' := fun b u _ _ h => s b u h
theorem SameP.putp {p c : Addr} {H H' : Hp} {o : HO} (s : SameP p c H H') : SameP p c H (upd H' p o) := fun b u h1 h2 e => (upd_ne h1).trans (s b u h1 h2 e)
theorem SameP.putc {p c : Addr} {H H' : Hp} {o : HO} (s : SameP p c H H') : SameP p c H (upd H' c o) := fun b u h1 h2 e => (upd_ne h2).trans (s b u h1 h2 e)
theorem Pool.same {H H' : Hp} {p c : Addr} (h : Pool H p c) (s : Same H H') : Pool H' p c := by
  obtain ⟨ne, a, k, cells, h1, h2⟩ := h
  exact ⟨ne, a, k, cells, s _ _ h1, s _ _ h2⟩
/-- what is not the pool's, at an address that the pool's heap did not know -/
theorem SameP.put {p c a : Addr} {H H' : Hp} {o : HO} (s : SameP p c H H') (n : H a = none) : SameP p c H (upd H' a o) := fun b u h1 h2 e => (upd_ne (ne_of_none e n)).trans (s b u h1 h2 e)
theorem Pool.put {H : Hp} {p c a : Addr} {o : HO} (h : Pool H p c) (n1 : a ≠ p) (n2 : a ≠ c) : Pool (upd H a o) p c := by
  obtain ⟨ne, x, k, cells, h1, h2⟩ := h
  exact ⟨ne, x, k, cells, (upd_ne n1.symm).trans h1, (upd_ne n2.symm).trans h2⟩
theorem Pool.ne {H : Hp} {p c a : Addr} (h : Pool H p c) (n : H a = none) : a ≠ p ∧ a ≠ c := by
  obtain ⟨ne, x, k, cells, h1, h2⟩ := h
  exact ⟨(fun z => by rw [z, h1] at n; cases n), (fun z => by rw [z, h2] at n; cases n)⟩
theorem Pool.tp {H : Hp} {p c : Addr} (h : Pool H p c) : NoTup H p ∧ NoTup H c := by
  obtain ⟨ne, x, k, cells, h1, h2⟩ := h
  exact ⟨noTup_lst h1, noTup_lst h2⟩
section
variable {K : PySem.W.Frag}
theorem sqT_sp {H H' : Hp} {p c a : Addr} {xs : List V} (hp : Pool H p c) (s : SameP p c H H') (h : SqT K H a xs) : SqT K H' a xs := by
  obtain ⟨n1, n2⟩ := hp.tp
  rcases h with (h | ⟨o, h⟩) | h
  · exact .inl (.inl (s a _ (fun e => by rw [e] at h; exact (n1 _).1 h) (fun e => by rw [e] at h; exact (n2 _).1 h) h))
  · exact .inl (.inr ⟨o, s a _ (fun e => by rw [e] at h; exact (n1 _).2 _ h) (fun e => by rw [e] at h; exact (n2 _).2 _ h) h⟩)
  · exact .inr h
mutual
theorem Dp.sp {H H' : Hp} {p c : Addr} (hp : Pool H p c) (s : SameP p c H H') : ∀ {d : PyData}, NL d → ∀ {v : V}, Dp K H v d → Dp K H' v d
  | _, .non, _, .non => .non
  | _, .bl b, _, .bl _ => .bl b
  | _, .int i, _, .int _ => .int i
  | _, .str x, _, .str _ => .str x
  | _, .tup l, _, .tup h t => .tup (sqT_sp hp s h) (DpAll.sp hp s l t)
theorem DpAll.sp {H H' : Hp} {p c : Addr} (hp : Pool H p c) (s : SameP p c H H') : ∀ {ds : List PyData}, NLs ds → ∀ {vs : List V}, DpAll K H vs ds → DpAll K H' vs ds
  | _, .nil, _, .nil => .nil
  | _, .cons h t, _, .cons a b => .cons (Dp.sp hp s h a) (DpAll.sp hp s t b)
end
end
section
variable {P : Program} {w : World} {K : PySem.W.Frag} {mg : Str → Option Value} {base : Heap}
def spPool (K : PySem.W.Frag) : Sp := fun vs H Q _ => ∃ (a : Addr) (ns : List Int), vs = [.ref a] ∧ SqL K H a (ns.map V.int) ∧ ns.length ≤ 63 ∧ ∀ H' p c, Pool H' p c → Q (.ref p) H'
theorem sc_law_pool : FnScope ["_law_script", "_law_seed", "_law_cell"] ["_law_script"] (defScope s__law_pool) := ⟨rfl, rfl, rfl, by decide +kernel, rfl, by decide +kernel, by decide +kernel⟩
theorem c_law_pool (F : Fx K mg) : C8.Cal P w K mg base 1 "_law_pool" (spPool K) [] := by
  refine (F.cal (d := d__law_pool) (k := 0) 44 (j := 42) rfl rfl rfl sc_law_pool (fun _ _ _ _ _ _ us hl => match us, hl with | [_], _ => rfl) (fun vs H Q E h => ?_) (fun f cdv A outer s H vs Q E hr h => ?_))
  · obtain ⟨a, ns, rfl, _⟩ := h; rfl
  · refine ⟨_, (pss_cons (ps_set (i := 1) sc_law_pool.nd rfl (Or.inl rfl) (pe_op op_add (pe_op op_add (pe_op op_modN (pe_callTy call_int1 (by rfl) F.int (by decide +kernel) (pa_cons (pe_callB (sumL (K := K) rfl rfl) (by rfl) F.sum (by decide +kernel) (pa_cons (pe_slice (slL (K := K) rfl) (pv 0) po_none (po_some pe_int)) pa_nil)) pa_nil)) pe_int) (pe_callB (lenS (K := K) rfl) (by rfl) F.len (by decide +kernel) (pa_cons (pv 0) pa_nil))) pe_int))
      (pss_cons (ps_for PassesOwn.never rfl (piL (K := K) rfl (pe_slice (slL (K := K) rfl) (pv 0) po_none (po_some pe_int))) (pg_name (i := 2) sc_law_pool.nd rfl (Or.inl rfl)) (pss_one (ps_set (i := 1) sc_law_pool.nd rfl (Or.inl rfl) (pe_op op_modN (pe_callTy call_int1 (by rfl) F.int (by decide +kernel) (pa_cons (pe_op op_add (pe_op op_add (pe_op op_mul (pv 1) pe_int) (pe_op op_modN (pe_callTy call_int1 (by rfl) F.int (by decide +kernel) (pa_cons (pv 2) pa_nil)) pe_int)) pe_int) pa_nil)) pe_int))))
      (pss_one (ps_ret (pe_lst (pa_cons (pv 1) (pa_cons pe_int (pa_cons (pe_lc (own := [("_law_cell", 2)]) (g := gName 2) rfl sc_law_pool.nd (piL (K := K) rfl (pe_slice (slL (K := K) rfl) (pv 0) po_none (po_some pe_int))) (blkOk_by (own := [("_law_cell", 2)]) (N := ["_law_script", "_law_seed", "_law_cell"]) (sc := defScope s__law_pool) (by decide +kernel)) (fun _ _ _ _ _ => (pg_name (i := 2) sc_law_pool.nd rfl (Or.inl rfl))) (fun _ _ _ _ _ => (pts_one (pt_cmpR op_ge (pe_callB call_abs (by rfl) F.abs (by decide +kernel) (pa_cons (pv 2) pa_nil)) (pe_op op_pow pe_int pe_int) (nomark _)))) (fun _ _ _ _ _ => (pe_callB call_abs (by rfl) F.abs (by decide +kernel) (pa_cons (pv 2) pa_nil)))) pa_nil)))))))), ?_⟩
    obtain ⟨a, ns, rfl, ha, hl, q⟩ := h
    obtain ⟨m1, e1, _⟩ := cutV_ints ns none (some 1)
    obtain ⟨m2, e2, l2⟩ := cutV_ints ns none (some 63)
    refine ⟨_, rfl, _, rfl, a, _, rfl, ha, fun b hb => ?_⟩
    rw [e1]
    refine ⟨b, _, rfl, SqL.of upd_same, ?_⟩
    refine .inl ⟨_, rfl, _, _, rfl, rfl, nz1, ?_⟩
    refine ⟨_, rfl, a, _, rfl, .inl (same_l (same_new hb) ha), _, _, rfl, rfl, _, _, rfl, rfl, ?_⟩
    have ha1 := same_l (same_new (o := .lst (m1.map V.int)) hb) ha
    refine ⟨_, rfl, _, rfl, a, _, rfl, ha1, fun b2 hb2 => ?_⟩
    rw [e2]
    have dnat : ∀ (H : Hp) (b : Addr) (ms : List Int), H b = some (.lst (ms.map V.int)) → Dp K H (.ref b) (.list (ms.map PyData.int)) := fun H b ms h => .lst (SqL.of h) dpAll_ints
    refine forL (K := K) (enc := PyData.int) (dnat _ _ m2 upd_same) (fun i σ H2 => ∃ (s : Int) (p2 : Option V), σ = [some (.ref a), some (.int s), p2] ∧ Same (upd (upd H b (.lst (m1.map V.int))) b2 (.lst (m2.map V.int))) H2) ⟨_, _, rfl, Same.refl _⟩ (fun i σ H2 h => ?_) (fun i z x σ H2 hi dx h => ?_) fun σ H2 h => ?_
    · obtain ⟨_, _, _, sm⟩ := h
      exact dnat _ _ m2 (sm _ _ upd_same)
    · obtain ⟨s, p2, rfl, sm⟩ := h
      obtain rfl := dp_int dx
      refine ⟨_, rfl, _, _, rfl, rfl, .inr ⟨by omega, by omega⟩, ?_⟩
      refine ⟨_, rfl, .inl ⟨_, rfl, _, _, rfl, rfl, nz3, ?_⟩⟩
      refine ⟨_, _, rfl, rfl, _, _, rfl, rfl, ?_⟩
      exact .inl ⟨_, rfl, _, _, rfl, rfl, nz2, _, _, rfl, sm⟩
    · obtain ⟨s, p2, rfl, sm⟩ := h
      have ha2 := same_l sm (same_l (same_new hb2) ha1)
      refine ⟨_, rfl, ?_⟩
      refine ⟨_, rfl, _, rfl, a, _, rfl, ha2, fun b3 hb3 => ?_⟩
      rw [e2]
      refine lcL (K := K) (enc := PyData.int) (dnat _ _ m2 upd_same) (fun z => if decide ((if z < 0 then -z else z) ≥ 10 ^ 18) = true then some (.int (if z < 0 then -z else z)) else none) (by omega) (fun z d e => ?_) (fun z x H3 hz sm3 dx => ?_) fun D H3 xs hD sm3 hx dx => ?_
      · by_cases c : decide ((if z < 0 then -z else z) ≥ 10 ^ 18) = true
        · rw [if_pos c] at e; cases e; exact .int _
        · rw [if_neg c] at e; cases e
      · obtain rfl := dp_int dx
        intro Qy Qn qy qn
        refine ⟨rfl, _, rfl, _, rfl, _, _, rfl, rfl, ⟨by decide, by decide, by decide⟩, _, _, rfl, rfl, _, rfl, ite2 (fun c => ?_) fun c => ?_⟩
        · exact ⟨_, rfl, _, rfl, qy _ _ _ (if_pos c) (Same.refl _) (.int _)⟩
        · exact qn (if_neg c) _ (Same.refl _)
      · have em : m2.filterMap (fun z => if decide ((if z < 0 then -z else z) ≥ 10 ^ 18) = true then some (PyData.int (if z < 0 then -z else z)) else none) = (m2.filterMap fun z : Int => if decide ((if z < 0 then -z else z) ≥ 10 ^ 18) = true then some (if z < 0 then -z else z) else none).map .int := by
          rw [List.map_filterMap]
          congr 1
          funext z
          by_cases c : decide ((if z < 0 then -z else z) ≥ 10 ^ 18) = true
          · rw [if_pos c, if_pos c]; rfl
          · rw [if_neg c, if_neg c]; rfl
        rw [em] at dx
        obtain rfl := dpAll_ints_inv dx
        refine ⟨sz (by simp), fun p hp => q _ p D ⟨(fun z => by rw [z, hx] at hp; cases hp), _, _, _, upd_same, (upd_ne fun z => by rw [← z, hx] at hp; cases hp).trans hx⟩⟩
def spDraw : Sp := fun vs H Q _ => ∃ (p c : Addr) (m : Nat), vs = [.ref p, .int (m : Int)] ∧ Pool H p c ∧ 0 < m ∧ m ≤ 1000 ∧ ∀ H' (d : Nat), SameP p c H H' → Pool H' p c → d < m → Q (.int (d : Int)) H'
theorem sc_law_draw : FnScope ["_law_pool_here", "_law_many", "_law_cells", "_law_digit", "_law_mixed"] ["_law_pool_here", "_law_many"] (defScope s__law_draw) := ⟨rfl, rfl, rfl, by decide +kernel, rfl, by decide +kernel, by decide +kernel⟩
theorem c_law_draw (F : Fx K mg) : C8.Cal P w K mg base 1 "_law_draw" spDraw [] := by
  refine (F.cal (d := d__law_draw) (k := 0) 45 (j := 43) rfl rfl rfl sc_law_draw (fun _ _ _ _ _ _ us hl => match us, hl with | [_, _], _ => rfl) (fun vs H Q E h => ?_) (fun f cdv A outer s H vs Q E hr h => ?_))
  · obtain ⟨p, c, m, rfl, _⟩ := h; rfl
  · refine ⟨_, (pss_cons (ps_asg (pe_op op_add (pe_ix (ixL (K := K) rfl) (pv 0) pe_int (fun _ _ => rfl)) pe_int) (pg_sub (pv 0) pe_int set_list))
      (pss_cons (ps_set (i := 2) sc_law_draw.nd rfl (Or.inl rfl) (pe_ix (ixL (K := K) rfl) (pv 0) pe_int (fun _ _ => rfl)))
      (pss_cons (ps_if (pt_cmpR op_gt (pe_callB (lenS (K := K) rfl) (by rfl) F.len (by decide +kernel) (pa_cons (pv 2) pa_nil)) pe_int (nomark _)) (pss_cons (ps_set (i := 3) sc_law_draw.nd rfl (Or.inl rfl) (pe_op op_modN (pe_callTy call_int1 (by rfl) F.int (by decide +kernel) (pa_cons (pe_ix (ixL (K := K) rfl) (pv 2) pe_int (fun _ _ => rfl)) pa_nil)) (pv 1)))
      (pss_cons (ps_asg (pe_op op_fdivN (pe_callTy call_int1 (by rfl) F.int (by decide +kernel) (pa_cons (pe_ix (ixL (K := K) rfl) (pv 2) pe_int (fun _ _ => rfl)) pa_nil)) (pv 1)) (pg_sub (pv 2) pe_int set_list))
      (pss_cons (ps_if (pt_cmpR op_eq (pe_ix (ixL (K := K) rfl) (pv 2) pe_int (fun _ _ => rfl)) pe_int (nomark _)) (pss_one (ps_expr (pe_bm PySem.F.plainAttrs_list PySem.F.slot_list_pop PySem.F.type_list_pop mt_popAt (pv 2) (pa_cons pe_int pa_nil)))) pss_nil)
      (pss_one (ps_ret (pv 3)))))) pss_nil)
      (pss_cons (ps_set (i := 4) sc_law_draw.nd rfl (Or.inl rfl) (pe_op op_modN (pe_callTy call_int1 (by rfl) F.int (by decide +kernel) (pa_cons (pe_op op_mul (pe_op op_add (pe_ix (ixL (K := K) rfl) (pv 0) pe_int (fun _ _ => rfl)) (pe_op op_mul pe_int (pe_ix (ixL (K := K) rfl) (pv 0) pe_int (fun _ _ => rfl)))) pe_int) pa_nil)) pe_int))
      (pss_cons (ps_set (i := 4) sc_law_draw.nd rfl (Or.inl rfl) (pe_op op_modN (pe_callTy call_int1 (by rfl) F.int (by decide +kernel) (pa_cons (pe_op op_mul (pv 4) (pe_op op_add (pe_op op_fdivN (pv 4) pe_int) pe_int)) pa_nil)) pe_int))
      (pss_cons (ps_set (i := 4) sc_law_draw.nd rfl (Or.inl rfl) (pe_op op_modN (pe_callTy call_int1 (by rfl) F.int (by decide +kernel) (pa_cons (pe_op op_mul (pv 4) (pe_op op_add (pe_op op_fdivN (pv 4) pe_int) pe_int)) pa_nil)) pe_int))
      (pss_one (ps_ret (pe_op op_modN (pe_callTy call_int1 (by rfl) F.int (by decide +kernel) (pa_cons (pe_op op_fdivN (pv 4) pe_int) pa_nil)) (pv 1)))))))))), ?_⟩
    obtain ⟨p, c, m, rfl, ⟨ne, s, k, cells, hp, hc⟩, m0, m1, q⟩ := h
    have q' : ∀ H' (d : Int), SameP p c H H' → Pool H' p c → 0 ≤ d → d < m → Q (.int d) H' := fun H' d s1 h1 d0 d1 => by
      have := q H' d.toNat s1 h1 (by omega)
      have e : ((d.toNat : Nat) : Int) = d := by omega
      rw [e] at this
      exact this
    refine ⟨_, rfl, p, _, _, _, rfl, rfl, SqL.of hp, rfl, _, _, rfl, rfl, ?_⟩
    refine ⟨_, rfl, p, _, _, 1, rfl, rfl, hp, rfl, ?_⟩
    have hp1 : upd H p (.lst ([V.int s, V.int k, V.ref c].set 1 (V.int (k + 1)))) p = some (.lst [V.int s, V.int (k + 1), V.ref c]) := upd_same
    have hc1 : upd H p (.lst ([V.int s, V.int k, V.ref c].set 1 (V.int (k + 1)))) c = some (.lst (cells.map V.int)) := (upd_ne ne.symm).trans hc
    have s1 : SameP p c H (upd H p (.lst ([V.int s, V.int k, V.ref c].set 1 (V.int (k + 1))))) := SameP.refl.putp
    show tSeq _ _ _ _ (upd H p (.lst ([V.int s, V.int k, V.ref c].set 1 (V.int (k + 1)))))
    generalize upd H p (.lst ([V.int s, V.int k, V.ref c].set 1 (V.int (k + 1)))) = H1 at hp1 hc1 s1
    refine ⟨_, rfl, p, _, _, .ref c, rfl, rfl, SqL.of hp1, rfl, ?_⟩
    refine ⟨_, rfl, c, _, rfl, .inl (SqL.of hc1), _, _, rfl, rfl, _, rfl, ite2 (fun d => ?_) fun d => ?_⟩
    · cases cells with
      | nil => simp at d
      | cons z r =>
        refine ⟨_, rfl, c, _, _, .int z, rfl, rfl, SqL.of hc1, atI_nat (j := 0) rfl, .inl ⟨_, rfl, _, rfl, _, _, rfl, rfl, by omega, ?_⟩⟩
        refine ⟨_, rfl, c, _, _, .int z, rfl, rfl, SqL.of hc1, atI_nat (j := 0) rfl, .inl ⟨_, rfl, _, rfl, _, _, rfl, rfl, ⟨by omega, by omega⟩, ?_⟩⟩
        refine ⟨_, rfl, c, _, _, 0, rfl, rfl, hc1, ixn (j := 0) (by simp), ?_⟩
        obtain ⟨f1, f2⟩ := fmod_in z (show (0 : Int) < m by omega)
        have hc2 : upd H1 c (.lst (((z :: r).map V.int).set 0 (V.int (z.fdiv m)))) c = some (.lst ((z.fdiv m :: r).map V.int)) := upd_same
        have hp2 : upd H1 c (.lst (((z :: r).map V.int).set 0 (V.int (z.fdiv m)))) p = some (.lst [V.int s, V.int (k + 1), V.ref c]) := (upd_ne ne).trans hp1
        have s2 : SameP p c H (upd H1 c (.lst (((z :: r).map V.int).set 0 (V.int (z.fdiv m))))) := s1.putc
        show tSeq _ _ _ _ (upd H1 c (.lst (((z :: r).map V.int).set 0 (V.int (z.fdiv m)))))
        generalize upd H1 c (.lst (((z :: r).map V.int).set 0 (V.int (z.fdiv m)))) = H2 at hc2 hp2 s2
        refine ⟨_, rfl, c, _, _, _, rfl, rfl, SqL.of hc2, atI_nat (j := 0) rfl, rfl, _, rfl, ite2 (fun d => ?_) fun d => ?_⟩
        · refine ⟨_, rfl, .inl ⟨rfl, _, SqL.of hc2⟩, c, _, _, 0, _, rfl, rfl, hc2, by omega, by omega, ?_, rfl, ?_⟩
          · simp [seqIndex?]
          · exact ⟨_, rfl, q' _ _ s2.putc ⟨ne, s, k + 1, r, (upd_ne ne).trans hp2, upd_same⟩ f1 f2⟩
        · exact ⟨_, rfl, q' _ _ s2 ⟨ne, s, k + 1, _, hp2, hc2⟩ f1 f2⟩
    · have P1 : Pool H1 p c := ⟨ne, s, k + 1, cells, hp1, hc1⟩
      refine ⟨_, rfl, p, _, _, _, rfl, rfl, SqL.of hp1, rfl, _, rfl, p, _, _, _, rfl, rfl, SqL.of hp1, rfl, _, _, rfl, rfl, .inl ⟨by omega, by omega⟩, ?_⟩
      refine ⟨_, _, rfl, rfl, _, _, rfl, rfl, .inr ⟨by omega, by omega⟩, .inl ⟨_, rfl, _, _, rfl, rfl, nz2, ?_⟩⟩
      obtain ⟨b1, b2⟩ := fmod_in ((s + 7919 * (k + 1)) * 48271) (show (0 : Int) < 2147483647 by decide)
      show gName 4 (V.int (Int.fmod ((s + 7919 * (k + 1)) * 48271) 2147483647)) _ _ _
      generalize Int.fmod ((s + 7919 * (k + 1)) * 48271) 2147483647 = x1 at b1 b2 ⊢
      refine ⟨_, rfl, _, rfl, _, _, rfl, rfl, ⟨by omega, by omega⟩, _, _, rfl, rfl, _, _, rfl, rfl, .inl ⟨by omega, by omega⟩, .inl ⟨_, rfl, _, _, rfl, rfl, nz2, ?_⟩⟩
      obtain ⟨b3, b4⟩ := fmod_in (x1 * (x1.fdiv 1009 + 69621)) (show (0 : Int) < 2147483647 by decide)
      show gName 4 (V.int (Int.fmod (x1 * (x1.fdiv 1009 + 69621)) 2147483647)) _ _ _
      generalize Int.fmod (x1 * (x1.fdiv 1009 + 69621)) 2147483647 = x2 at b3 b4 ⊢
      refine ⟨_, rfl, _, rfl, _, _, rfl, rfl, ⟨by omega, by omega⟩, _, _, rfl, rfl, _, _, rfl, rfl, .inl ⟨by omega, by omega⟩, .inl ⟨_, rfl, _, _, rfl, rfl, nz4, ?_⟩⟩
      refine ⟨_, rfl, _, _, rfl, rfl, ⟨by omega, by omega⟩, .inl ⟨_, rfl, _, rfl, _, _, rfl, rfl, by omega, ?_⟩⟩
      obtain ⟨f1, f2⟩ := fmod_in (Int.fdiv (Int.fmod (x2 * (x2.fdiv 2003 + 40692)) 2147483399) 16) (show (0 : Int) < m by omega)
      exact q' _ _ s1 P1 f1 f2
end
end K68
set_option maxRecDepth 100000
set_option maxHeartbeats 400000
namespace K68
open PySem PySem.Spec PyProof.Rows L2
theorem rising_le : ∀ {l : List Nat} {p : Nat}, risingS (sg p) (l.map sg) = true → (∀ x ∈ l, p ≤ x) ∧ l.Pairwise (· ≤ ·)
  | [], _, _ => ⟨by simp, .nil⟩
  | x :: l, p, h => by
    rw [List.map_cons, risingS, Bool.and_eq_true, Bool.not_eq_true'] at h
    obtain ⟨h1, h2⟩ := h
    obtain ⟨a, b⟩ := rising_le h2
    have px : p ≤ x := by
      apply Classical.byContradiction
      intro no
      have : ltCps (sg x).cps.toList (sg p).cps.toList = true := by
        show (decide (x < p) || _) = true
        rw [decide_eq_true (by omega), Bool.true_or]
      rw [this] at h1
      cases h1
    refine ⟨fun y hy => ?_, List.pairwise_cons.mpr ⟨a, b⟩⟩
    rcases List.mem_cons.mp hy with rfl | hy
    · exact px
    · exact Nat.le_trans px (a y hy)
theorem sorted_le {l : List Nat} (h : sortedS (l.map sg) = true) : l.Pairwise (· ≤ ·) := by
  cases l with
  | nil => exact .nil
  | cons p l =>
    obtain ⟨a, b⟩ := rising_le (show risingS (sg p) (l.map sg) = true from h)
    exact List.pairwise_cons.mpr ⟨a, b⟩
theorem le_lt {l : List Nat} (h : l.Pairwise (· ≤ ·)) (nd : l.Nodup) : l.Pairwise (· < ·) := h.imp₂ (fun {a b} h1 h2 => Nat.lt_of_le_of_ne h1 h2) nd
def unsg (s : Str) : Nat := s.cps.toList.headD 0
theorem perm_sg {ys : List Str} {ks : List Nat} (h : ys.Perm (ks.map sg)) : ∃ cs : List Nat, ys = cs.map sg ∧ cs.Perm ks := by
  refine ⟨ys.map unsg, ?_, ?_⟩
  · rw [List.map_map]
    have : ∀ y ∈ ys, (sg ∘ unsg) y = y := fun y hy => by
      obtain ⟨k, _, rfl⟩ := List.mem_map.mp (h.mem_iff.mp hy)
      rfl
    rw [List.map_congr_left this, List.map_id']
  · have := h.map unsg
    rw [List.map_map] at this
    have e : (unsg ∘ sg) = id := rfl
    rw [e, List.map_id] at this
    exact this
theorem letters_at : ∀ j : Fin 26, ("abcdefghijklmnopqrstuvwxyz" : Str).cps.toList[j.val]? = some (97 + j.val) := by decide +kernel
def sgV (c : Nat) : V := .str (sg c)
theorem sgv_map (l : List Nat) : l.map sgV = (l.map sg).map V.str := by rw [List.map_map]; rfl
def sgD (c : Nat) : PyData := .str (sg c)
theorem SameP.free {p c a : Addr} {H H' : Hp} (s : SameP p c H H') (hp : Pool H' p c) (h : H' a = none) : H a = none := by
  obtain ⟨n1, n2⟩ := hp.ne h
  cases e : H a with
  | none => rfl
  | some u => rw [s a u n1 n2 e] at h; cases h
section
variable {P : Program} {w : World} {K : PySem.W.Frag} {mg : Str → Option Value} {base : Heap}
theorem dp_sgs {H : Hp} {a : Addr} {cs : List Nat} (h : H a = some (.lst (cs.map sgV))) : Dp K H (.ref a) (.list (cs.map sgD)) := by
  refine .lst (SqL.of h) ?_
  clear h
  induction cs with
  | nil => exact .nil
  | cons c cs ih => exact .cons (.str _) ih
theorem sgs_of {H : Hp} : ∀ {cs : List Nat} {xs : List V}, DpAll K H xs (cs.map sgD) → xs = cs.map sgV
  | [], _, h => dpAll_nil h
  | c :: cs, _, h => by
    obtain ⟨x, r, rfl, h1, h2⟩ := dpAll_cons h
    rw [dp_str h1, sgs_of h2]
    rfl
def spSigns : Sp := fun vs H Q _ => ∃ (p c : Addr) (m : Nat), vs = [.ref p, .int (m : Int)] ∧ Pool H p c ∧ 0 < m ∧ m ≤ 4 ∧ ∀ H' a (cs : List Nat), SameP p c H H' → Pool H' p c → H a = none → H' a = some (.lst (cs.map sgV)) → cs.length = m → (∀ x ∈ cs, 97 ≤ x ∧ x ≤ 122) → cs.Pairwise (· < ·) → Q (.ref a) H'
theorem sc_law_signs : FnScope ["_law_pool_here", "_law_many", "_law_start", "_law_step", "_law_k"] ["_law_pool_here", "_law_many"] (defScope s__law_signs) := ⟨rfl, rfl, rfl, by decide +kernel, rfl, by decide +kernel, by decide +kernel⟩
theorem c_law_signs (F : Fx K mg) : C8.Cal P w K mg base 2 "_law_signs" spSigns [] := by
  refine (F.cal (d := d__law_signs) (k := 1) 46 (j := 44) rfl rfl rfl sc_law_signs (fun _ _ _ _ _ _ us hl => match us, hl with | [_, _], _ => rfl) (fun vs H Q E h => ?_) (fun f cdv A outer s H vs Q E hr h => ?_))
  · obtain ⟨p, c, m, rfl, _⟩ := h; rfl
  · refine ⟨_, (pss_cons (ps_set (i := 2) sc_law_signs.nd rfl (Or.inr rfl) (C8.pe_c (c_law_draw F) hr (by decide) (by rfl) (pa_cons (pv 0) (pa_cons pe_int pa_nil))))
      (pss_cons (ps_set (i := 3) sc_law_signs.nd rfl (Or.inr rfl) (pe_ix (ixL (K := K) rfl) (pe_lst (pa_cons pe_int (pa_cons pe_int (pa_cons pe_int (pa_cons pe_int (pa_cons pe_int pa_nil)))))) (C8.pe_c (c_law_draw F) hr (by decide) (by rfl) (pa_cons (pv 0) (pa_cons pe_int pa_nil))) (fun _ _ => rfl)))
      (pss_one (ps_ret (pe_callB (srtS (K := K) rfl) (by rfl) F.sorted (by decide +kernel) (pa_cons (pe_lc (own := [("_law_k", 4)]) (g := gName 4) rfl sc_law_signs.nd (pi_range1 (by rfl) F.range (pa_cons (pv 1) pa_nil)) (blkOk_by (own := [("_law_k", 4)]) (N := ["_law_pool_here", "_law_many", "_law_start", "_law_step", "_law_k"]) (sc := defScope s__law_signs) (by decide +kernel)) (fun _ _ _ _ _ => (pg_name (i := 4) sc_law_signs.nd rfl (Or.inl rfl))) (fun _ _ _ _ _ => pts_nil) (fun _ _ _ _ _ => (pe_ix ix_str pe_str (pe_op op_modN (pe_callTy call_int1 (by rfl) F.int (by decide +kernel) (pa_cons (pe_op op_add (pv 2) (pe_op op_mul (pv 3) (pv 4))) pa_nil)) pe_int) (fun _ _ => rfl)))) pa_nil)))))), ?_⟩
    obtain ⟨p, c, m, rfl, hp, m0, m4, q⟩ := h
    refine ⟨_, rfl, p, c, 26, rfl, hp, by omega, by omega, fun H1 d s1 hp1 d26 => ?_⟩
    refine ⟨sz (by simp), fun b hb => ?_⟩
    obtain ⟨n1, n2⟩ := hp1.ne hb
    refine ⟨_, rfl, p, c, 5, rfl, hp1.put n1 n2, by omega, by omega, fun H2 e s2 hp2 e5 => ?_⟩
    have hb2 : H2 b = some (.lst [.int 1, .int 3, .int 5, .int 7, .int 9]) := s2 b _ n1 n2 upd_same
    have pick : ∃ st : Nat, ([V.int 1, V.int 3, V.int 5, V.int 7, V.int 9] : List V)[e]? = some (V.int (st : Int)) ∧ (st = 1 ∨ st = 3 ∨ st = 5 ∨ st = 7 ∨ st = 9) := by
      have : e = 0 ∨ e = 1 ∨ e = 2 ∨ e = 3 ∨ e = 4 := by omega
      rcases this with rfl | rfl | rfl | rfl | rfl
      · exact ⟨1, rfl, by omega⟩
      · exact ⟨3, rfl, by omega⟩
      · exact ⟨5, rfl, by omega⟩
      · exact ⟨7, rfl, by omega⟩
      · exact ⟨9, rfl, by omega⟩
    obtain ⟨st, pk, sto⟩ := pick
    refine ⟨b, _, _, _, rfl, rfl, SqL.of hb2, atI_nat pk, ?_⟩
    have s02 : SameP p c H H2 := (s1.put (o := .lst [.int 1, .int 3, .int 5, .int 7, .int 9]) (by
      cases eb : H b with
      | none => rfl
      | some u =>
        by_cases z1 : b = p
        · exact absurd z1 n1
        · by_cases z2 : b = c
          · exact absurd z2 n2
          · have := s1 b u z1 z2 eb
            rw [hb] at this; cases this)).trans s2
    refine ⟨_, rfl, _, rfl, by omega, by omega, ?_⟩
    refine lcRg (K := K) (fun k => some (sgD (97 + (d + st * k) % 26))) (by omega) (fun a d e => by cases e; exact .str _) (fun i H3 hi sm3 => ?_) fun D H3 xs hD sm3 hx dx => ?_
    · refine lct_name rfl fun Qy qy => ?_
      refine ⟨_, rfl, _, rfl, _, rfl, _, _, rfl, rfl, .inl ⟨by omega, by omega⟩, _, _, rfl, rfl, .inl ⟨_, rfl, _, _, rfl, rfl, by omega, ?_⟩⟩
      have e1 : ((d : Int) + (st : Int) * (0 + (i : Nat))).fmod 26 = (((d + st * i) % 26 : Nat) : Int) := by
        rw [Int.fmod_eq_emod_of_nonneg _ (by omega), Int.zero_add]
        push_cast
        rfl
      have lt : (d + st * i) % 26 < 26 := Nat.mod_lt _ (by omega)
      refine ⟨_, _, 97 + (d + st * i) % 26, rfl, rfl, sz (by decide +kernel), ?_, ?_⟩
      · rw [e1]
        exact atI_nat (letters_at ⟨_, lt⟩)
      · exact qy _ _ (Same.refl _) (.str _)
    · have em : (((m : Nat) : Int) - 0).toNat = m := by omega
      rw [fmS] at dx
      have dx2 : DpAll K H3 xs (((List.range m).map fun k => 97 + (d + st * k) % 26).map sgD) := by rw [List.map_map]; exact dx
      obtain rfl := sgs_of dx2
      refine ⟨D, ((List.range m).map fun k => 97 + (d + st * k) % 26).map sg, rfl, SqL.of (by rw [hx, sgv_map]), by simp; omega, fun ys l pm so hl => ?_⟩
      obtain ⟨cs, rfl, pc⟩ := perm_sg pm
      have hl0 : H l = none := by
        cases eb : H l with
        | none => rfl
        | some u =>
          by_cases z1 : l = p
          · obtain ⟨_, _, _, _, hpp, _⟩ := (hp2.same sm3)
            rw [z1, hpp] at hl; cases hl
          · by_cases z2 : l = c
            · obtain ⟨_, _, _, _, _, hcc⟩ := (hp2.same sm3)
              rw [z2, hcc] at hl; cases hl
            · have := sm3 _ _ (s02 l u z1 z2 eb)
              rw [hl] at this; cases this
      obtain ⟨o1, o2⟩ := (hp2.same sm3).ne hl
      have nd : ((List.range m).map fun k => 97 + (d + st * k) % 26).Nodup := by
        refine List.Pairwise.map _ (R := fun a b => a < 4 ∧ b < 4 ∧ a ≠ b) (fun a b h e => ?_) ?_
        · obtain ⟨a4, b4, ne⟩ := h
          have e : 97 + (d + st * a) % 26 = 97 + (d + st * b) % 26 := e
          rcases sto with rfl | rfl | rfl | rfl | rfl <;> omega
        · exact List.Pairwise.imp_of_mem (fun {a b} ha hb ne => ⟨by have := List.mem_range.mp ha; omega, by have := List.mem_range.mp hb; omega, ne⟩) List.nodup_range
      refine q _ l cs ((s02.trans (.of sm3)).put hl0) ((hp2.same sm3).put o1 o2) hl0 (by rw [upd_same, sgv_map]) (by rw [pc.length_eq]; simp) (fun x hx => ?_) (le_lt (sorted_le so) (pc.nodup_iff.mpr nd))
      obtain ⟨k, _, rfl⟩ := List.mem_map.mp (pc.mem_iff.mp hx)
      show 97 ≤ 97 + (d + st * k) % 26 ∧ 97 + (d + st * k) % 26 ≤ 122
      omega
end
end K68
set_option maxRecDepth 100000
set_option maxHeartbeats 400000
namespace K68
open PySem PySem.Spec PyProof.Rows L2
/-- a for that may break: Post is what stands behind it -/
theorem for_itB {J : It} {n : Nat} {G : Hp → Prop} {Y : Nat → Hp → V → Hp → Prop} (w : Walk J n G Y) {g : TG} {tb : TS} {D : Ends} {σ : L2.St} {H : Hp} (Pv : Nat → L2.St → Hp → Prop) (Post : L2.St → Hp → Prop) (h0 : Pv 0 σ H) (hG : ∀ i σ H, i ≤ n → Pv i σ H → G H)
    (he : ∀ σ H, Pv n σ H → Post σ H) (hs : (∀ σ H, Post σ H → D.nx σ H) → ∀ i x σ H H', i < n → Pv i σ H → Y i H x H' → g x σ H' fun σ2 H2 => tb { D with nx := Pv (i + 1), ct := Pv (i + 1), bk := D.nx } σ2 H2) (hd : ∀ σ H, Post σ H → D.nx σ H) :
    ∃ W : Nat → Nat → L2.St → Hp → Prop, (∃ m, W 0 m σ H) ∧ ∀ i m σ H, W i m σ H →
      (J.stop i H ∧ D.nx σ H) ∨ (J.go i H ∧ ∃ N : L2.St → Hp → Prop, (∀ σ' H', N σ' H' → ∃ m', m' < m ∧ W (i + 1) m' σ' H') ∧ ∀ x H', J.yld i H x H' → g x σ H' fun σ2 H2 => tb { D with nx := N, ct := N, bk := D.nx } σ2 H2) :=
  for_it w Pv h0 hG (hs hd) fun σ H p => hd σ H (he σ H p)
theorem sum_nn : ∀ {ns : List Int}, (∀ x ∈ ns, 0 ≤ x) → 0 ≤ ns.sum
  | [], _ => by simp
  | n :: ns, h => by
    have h1 := h n (List.mem_cons_self)
    have h2 := sum_nn (ns := ns) fun x hx => h x (List.mem_cons_of_mem _ hx)
    rw [List.sum_cons]; omega
/-- the weight of a step -/
def wMax (y : Nat) : Int := (2520 : Int).fdiv (if (y : Int) > 1 then (y : Int) else 1)
theorem wMax_nn (y : Nat) : 0 ≤ wMax y := by
  unfold wMax
  rw [Int.fdiv_eq_ediv_of_nonneg _ (by split <;> omega)]
  exact Int.ediv_nonneg (by decide) (by split <;> omega)
section
variable {P : Program} {w : World} {K : PySem.W.Frag} {mg : Str → Option Value} {base : Heap}
theorem ints_data {H : Hp} {b : Addr} {ms : List Int} (h : H b = some (.lst (ms.map V.int))) : Dp K H (.ref b) (.list (ms.map PyData.int)) := .lst (SqL.of h) dpAll_ints
theorem fm_opt {α β : Type} (c : α → Bool) (f : α → β) (g : β → PyData) (l : List α) : l.filterMap (fun a => if c a = true then some (g (f a)) else none) = ((l.filter c).map f).map g := by
  induction l with
  | nil => rfl
  | cons a l ih =>
    by_cases h : c a = true
    · rw [List.filter_cons, if_pos h, List.map_cons, List.map_cons, ← ih, List.filterMap_cons, if_pos h]
    · rw [List.filter_cons, if_neg h, ← ih, List.filterMap_cons, if_neg h]
theorem nl_opt {α : Type} {c : α → Bool} {f : α → PyData} (h : ∀ a, NL (f a)) : ∀ a d, (if c a = true then some (f a) else none) = some d → NL d := fun a d e => by
  by_cases k : c a = true
  · rw [if_pos k] at e; cases e; exact h a
  · rw [if_neg k] at e; cases e
def spBound (K : PySem.W.Frag) : Sp := fun vs H Q _ => ∃ (v : V) (n : Nat) (ars : List A4), vs = [v] ∧ Dp K H v (toldD n ars) ∧ ToldOk n ars ∧ ∀ H' i, Same H H' → Q (.int i) H'
def BdInv (H0 : Hp) (v : V) (ga : Addr) (i : Nat) (σ : L2.St) (H : Hp) : Prop := ∃ (la : Addr) (ks : List Nat) (gs : List Int) (p3 p4 p5 p6 : Option V), σ = [some v, some (.ref la), some (.ref ga), p3, p4, p5, p6, none, none, none, none, none, none, none] ∧ Same H0 H ∧ H0 ga = none ∧ la ≠ ga ∧
  H la = some (.lst (ks.map natV)) ∧ ks.length ≤ 12 ∧ H ga = some (.lst (gs.map V.int)) ∧ gs.length ≤ i ∧ ∀ g ∈ gs, 1 ≤ g ∧ g ≤ 2520
theorem sc_law_bound : FnScope ["_law_told_here", "_law_left", "_law_gaps", "_law_turn", "_law_sums", "_law_place", "_law_struck", "_law_found", "_law_gap", "_law_start", "_law_letter", "_law_pay", "_law_goal", "_law_weight"] ["_law_told_here"] (defScope s__law_bound) := ⟨rfl, rfl, rfl, by decide +kernel, rfl, by decide +kernel, by decide +kernel⟩
theorem c_law_bound (F : Fx K mg) : C8.Cal P w K mg base 1 "_law_bound" (spBound K) [] := by
  refine (F.cal (d := d__law_bound) (k := 0) 47 (j := 45) rfl rfl rfl sc_law_bound (fun _ _ _ _ _ _ us hl => match us, hl with | [_], _ => rfl) (fun vs H Q E h => ?_) (fun f cdv A outer s H vs Q E hr h => ?_))
  · obtain ⟨v, n, ars, rfl, _⟩ := h; rfl
  · refine ⟨_, (pss_cons (ps_set (i := 1) sc_law_bound.nd rfl (Or.inr rfl) (pe_listRg rfl (by rfl) F.list (prg_1 (by rfl) F.range (pe_ix (ixT (K := K) rfl) (pv 0) pe_int (fun _ _ => rfl)))))
      (pss_cons (ps_set (i := 2) sc_law_bound.nd rfl (Or.inl rfl) (pe_lst pa_nil))
      (pss_cons (ps_for PassesOwn.never rfl (pi_range1 (by rfl) F.range (pa_cons (pe_ix (ixT (K := K) rfl) (pv 0) pe_int (fun _ _ => rfl)) pa_nil)) (pg_name (i := 3) sc_law_bound.nd rfl (Or.inl rfl)) (pss_cons (ps_set (i := 4) sc_law_bound.nd rfl (Or.inl rfl) (pe_lst pa_nil))
      (pss_cons (ps_for PassesOwn.never rfl (piL (K := K) rfl (pv 1)) (pg_name (i := 5) sc_law_bound.nd rfl (Or.inr rfl)) (pss_one (ps_expr (pe_bm PySem.F.plainAttrs_list PySem.F.slot_list_append PySem.F.type_list_append mt_append (pv 4) (pa_cons (pe_tup (pa_cons (pe_callB (sumL (K := K) rfl rfl) (by rfl) F.sum (by decide +kernel) (pa_cons (pe_lc (own := [("_law_start", 9), ("_law_letter", 10), ("_law_pay", 11), ("_law_goal", 12)]) (g := gTup K 4 (gCons (gName 9) (gCons (gName 10) (gCons (gName 11) (gCons (gName 12) (gNil)))))) rfl sc_law_bound.nd (piT (K := K) rfl (pe_ix (ixT (K := K) rfl) (pv 0) pe_int (fun _ _ => rfl))) (blkOk_by (own := [("_law_start", 9), ("_law_letter", 10), ("_law_pay", 11), ("_law_goal", 12)]) (N := ["_law_told_here", "_law_left", "_law_gaps", "_law_turn", "_law_sums", "_law_place", "_law_struck", "_law_found", "_law_gap", "_law_start", "_law_letter", "_law_pay", "_law_goal", "_law_weight"]) (sc := defScope s__law_bound) (by decide +kernel)) (fun _ _ _ _ _ => (tupK (K := K) (n := 4) rfl rfl (pgs_cons (pg_name (i := 9) sc_law_bound.nd rfl (Or.inl rfl)) (pgs_cons (pg_name (i := 10) sc_law_bound.nd rfl (Or.inl rfl)) (pgs_cons (pg_name (i := 11) sc_law_bound.nd rfl (Or.inl rfl)) (pgs_cons (pg_name (i := 12) sc_law_bound.nd rfl (Or.inl rfl)) pgs_nil)))))) (fun _ _ _ _ _ => (pts_one (PW.pt (pw_and (pt_cmpR op_eq (pv 9) (pv 5) (nomark _)) (pw_and1 (pt_cmpR (inS (K := K) rfl) (pv 12) (pv 1) rfl)))))) (fun _ _ _ _ _ => (pe_op op_fdivN pe_int (pe_callB (call_max2 rfl) (by rfl) F.max (by decide +kernel) (pa_cons pe_int (pa_cons (pv 11) pa_nil)))))) pa_nil)) (pa_cons (pv 5) pa_nil))) pa_nil)))))
      (pss_cons (ps_set (i := 6) sc_law_bound.nd rfl (Or.inr rfl) (pe_lc (own := [("_law_weight", 13), ("_law_place", 5)]) (g := gTup K 2 (gCons (gName 13) (gCons (gName 5) (gNil)))) rfl sc_law_bound.nd (piL (K := K) rfl (pv 4)) (blkOk_by (own := [("_law_weight", 13), ("_law_place", 5)]) (N := ["_law_told_here", "_law_left", "_law_gaps", "_law_turn", "_law_sums", "_law_place", "_law_struck", "_law_found", "_law_gap", "_law_start", "_law_letter", "_law_pay", "_law_goal", "_law_weight"]) (sc := defScope s__law_bound) (by decide +kernel)) (fun _ _ _ _ _ => (tupK (K := K) (n := 2) rfl rfl (pgs_cons (pg_name (i := 13) sc_law_bound.nd rfl (Or.inl rfl)) (pgs_cons (pg_name (i := 5) sc_law_bound.nd rfl (Or.inl rfl)) pgs_nil)))) (fun _ _ _ _ _ => (pts_one (pt_cmpR op_lt (pv 13) pe_int (nomark _)))) (fun _ _ _ _ _ => (pv 5))))
      (pss_cons (ps_if (pt_cmpR op_eq (pe_callB (lenS (K := K) rfl) (by rfl) F.len (by decide +kernel) (pa_cons (pv 6) pa_nil)) pe_int (nomark _)) (pss_one ps_break) pss_nil)
      (pss_cons (ps_expr (pe_bm PySem.F.plainAttrs_list PySem.F.slot_list_append PySem.F.type_list_append mt_append (pv 2) (pa_cons (pe_op op_sub pe_int (pe_callB (maxL (K := K) rfl rfl) (by rfl) F.max (by decide +kernel) (pa_cons (pe_lc (own := [("_law_weight", 13), ("_law_place", 5)]) (g := gTup K 2 (gCons (gName 13) (gCons (gName 5) (gNil)))) rfl sc_law_bound.nd (piL (K := K) rfl (pv 4)) (blkOk_by (own := [("_law_weight", 13), ("_law_place", 5)]) (N := ["_law_told_here", "_law_left", "_law_gaps", "_law_turn", "_law_sums", "_law_place", "_law_struck", "_law_found", "_law_gap", "_law_start", "_law_letter", "_law_pay", "_law_goal", "_law_weight"]) (sc := defScope s__law_bound) (by decide +kernel)) (fun _ _ _ _ _ => (tupK (K := K) (n := 2) rfl rfl (pgs_cons (pg_name (i := 13) sc_law_bound.nd rfl (Or.inl rfl)) (pgs_cons (pg_name (i := 5) sc_law_bound.nd rfl (Or.inl rfl)) pgs_nil)))) (fun _ _ _ _ _ => (pts_one (pt_cmpR op_lt (pv 13) pe_int (nomark _)))) (fun _ _ _ _ _ => (pv 13))) pa_nil))) pa_nil)))
      (pss_one (ps_set (i := 1) sc_law_bound.nd rfl (Or.inr rfl) (pe_lc (own := [("_law_place", 5)]) (g := gName 5) rfl sc_law_bound.nd (piL (K := K) rfl (pv 1)) (blkOk_by (own := [("_law_place", 5)]) (N := ["_law_told_here", "_law_left", "_law_gaps", "_law_turn", "_law_sums", "_law_place", "_law_struck", "_law_found", "_law_gap", "_law_start", "_law_letter", "_law_pay", "_law_goal", "_law_weight"]) (sc := defScope s__law_bound) (by decide +kernel)) (fun _ _ _ _ _ => (pg_name (i := 5) sc_law_bound.nd rfl (Or.inl rfl))) (fun _ _ _ _ _ => (pts_one (pt_cmpR (niS (K := K) rfl) (pv 5) (pv 6) rfl))) (fun _ _ _ _ _ => (pv 5)))))))))))
      (pss_cons (ps_set (i := 7) sc_law_bound.nd rfl (Or.inl rfl) pe_int)
      (pss_cons (ps_for PassesOwn.never rfl (piL (K := K) rfl (pe_revL (pv 2))) (pg_name (i := 8) sc_law_bound.nd rfl (Or.inl rfl)) (pss_one (ps_set (i := 7) sc_law_bound.nd rfl (Or.inl rfl) (pe_op op_add (pe_op op_fdivN (pe_op op_mul (pe_op op_add (pv 7) pe_int) pe_int) (pv 8)) pe_int))))
      (pss_one (ps_ret (pv 7)))))))), ?_⟩
    obtain ⟨v, n, ars, rfl, hv, ok, q⟩ := h
    have n1 := ok.pos
    have n12 := ok.few
    have l48 := ok.len
    obtain ⟨t, y, rfl, ht, hy⟩ := told_tup hv
    refine ⟨_, rfl, t, _, _, _, rfl, rfl, ht, rfl, _, rfl, RgOk.of_le (by omega) (by omega) (by omega) (by omega), fun la hla => ?_⟩
    refine ⟨sz (by simp), fun ga hga => ?_⟩
    have nlg : la ≠ ga := fun z => by rw [z, upd_same] at hga; cases hga
    have hga0 := none_back (same_new hla) hga
    have sm1 : Same H (upd (upd H la (.lst (rgV 0 (n : Int)))) ga (.lst [])) := (same_new hla).trans (same_new hga)
    refine ⟨_, rfl, t, _, _, _, rfl, rfl, same_t sm1 ht, rfl, _, rfl, by omega, by omega, ?_⟩
    have en : ((n : Nat) : Int).toNat = n := by omega
    rw [en]
    refine for_itB walk_range (BdInv H (.ref t) ga) (BdInv H (.ref t) ga n) ⟨la, List.range n, [], _, _, _, _, rfl, sm1, hga0, nlg, (upd_ne nlg).trans (upd_same.trans ?_), by rw [List.length_range]; omega, upd_same, Nat.le_refl _, by simp⟩ (fun _ _ _ _ _ => True.intro) (fun _ _ h => h) (fun back i x σ H1 H2 hi h yy => ?_) fun σ H1 h => ?_
    · unfold rgV natV; simp
    · obtain ⟨rfl, rfl⟩ := yy
      clear la hla nlg sm1 hga
      obtain ⟨la, ks, gs, p3, p4, p5, p6, rfl, sm, _, nlg, hla, k12, hga, gl, gb⟩ := h
      refine ⟨sz (by simp), fun sa hsa => ?_⟩
      have nsl : la ≠ sa := fun z => by rw [z, hsa] at hla; cases hla
      have nsg : ga ≠ sa := fun z => by rw [z, hsa] at hga; cases hga
      refine ⟨_, rfl, ?_⟩
      refine forL (K := K) (enc := natD) (dp_nats (SqL.of ((upd_ne nsl).trans hla))) (fun j σ H3 => ∃ (ws : List (Int × Nat)) (xs : List V) (p5 : Option V), σ = [some (.ref t), some (.ref la), some (.ref ga), some (.int (0 + (i : Nat))), some (.ref sa), p5, p6, none, none, none, none, none, none, none] ∧ Same H2 H3 ∧ H3 sa = some (.lst xs) ∧ DpAll K H3 xs (ws.map prD) ∧ ws.length ≤ j ∧ ∀ r ∈ ws, 0 ≤ r.1)
        ⟨[], [], _, rfl, same_new hsa, upd_same, .nil, Nat.le_refl _, by simp⟩ (fun j σ H3 h => ?_) (fun j p x σ H3 hj dx h => ?_) fun σ H3 h => ?_
      · obtain ⟨_, _, _, _, sm3, _⟩ := h
        exact dp_nats (SqL.of (sm3 _ _ hla))
      · obtain ⟨ws, xs, p5', rfl, sm3, hs3, dw, wl, wn⟩ := h
        obtain rfl := dp_int dx
        have sm03 := sm.trans sm3
        refine ⟨_, rfl, .inl ⟨rfl, _, SqL.of hs3⟩, ?_⟩
        refine ⟨_, rfl, t, _, _, _, rfl, rfl, same_t sm03 ht, rfl, ?_⟩
        refine lcT (K := K) (enc := arD) (Dp.same sm03 hy) (fun a => if (decide (a.p = p) && decide (a.g ∈ ks)) = true then some (.int (wMax a.y)) else none) (by omega) (nl_opt fun a => .int _) (fun a x H4 ha' sm4 dx => ?_) fun D H4 zs hD sm4 hz dz => ?_
        · obtain ⟨u, rfl, hu⟩ := ar_tup dx
          obtain ⟨a1, a2, _⟩ := ok.arr a ha'
          intro Qy Qn qy qn
          refine ⟨u, _, rfl, hu, rfl, _, _, rfl, _, _, rfl, _, _, rfl, _, _, rfl, rfl, rfl, ?_⟩
          refine ⟨_, rfl, _, rfl, rfl, _, rfl, ite2 (fun c1 => ?_) fun c1 => ?_⟩
          · have ep : a.p = p := by have := V.int.inj (of_decide_eq_true c1); omega
            refine ⟨_, rfl, _, rfl, la, _, rfl, .inl (SqL.of (sm4 _ _ (sm3 _ _ hla))), rfl, flat_ints, _, rfl, ?_⟩
            show if inV (.int ((a.g : Nat) : Int)) _ = true then _ else _
            rw [in_nats]
            refine ite2 (fun c2 => ?_) fun c2 => ?_
            · refine ⟨_, rfl, _, _, rfl, _, _, rfl, rfl, ⟨by split <;> omega, by split <;> omega⟩, ?_⟩
              exact qy _ _ _ (if_pos (by rw [decide_eq_true ep, Bool.true_and]; exact c2)) (Same.refl _) (.int _)
            · exact qn (if_neg fun z => c2 (Bool.and_eq_true_iff.mp z).2) _ (Same.refl _)
          · refine qn (if_neg fun z => c1 (decide_eq_true ?_)) _ (Same.refl _)
            rw [of_decide_eq_true (Bool.and_eq_true_iff.mp z).1]
        · rw [fm_opt (c := fun a : A4 => decide (a.p = p) && decide (a.g ∈ ks)) (f := fun a => wMax a.y) (g := PyData.int)] at dz
          obtain rfl := dpAll_ints_inv dz
          refine ⟨D, _, rfl, SqL.of hz, _, rfl, sz (by simp), fun u hu => ?_⟩
          have sum0 : 0 ≤ (((ars.filter fun a => decide (a.p = p) && decide (a.g ∈ ks)).map fun a => wMax a.y).sum) := sum_nn fun x hx => by
            obtain ⟨a, _, rfl⟩ := List.mem_map.mp hx
            exact wMax_nn _
          generalize ((ars.filter fun a => decide (a.p = p) && decide (a.g ∈ ks)).map fun a => wMax a.y).sum = W at sum0 hu ⊢
          have hs4 := sm4 _ _ hs3
          have nsu : sa ≠ u := fun z => by rw [z, hu] at hs4; cases hs4
          have ksl : j < ks.length := (List.getElem?_eq_some_iff.mp hj).1
          have xl := enc_len dw
          refine ⟨sa, _, _, rfl, rfl, (upd_ne nsu).trans hs4, small1000 (by omega), ws ++ [(W, p)], _, _, rfl, ?_, upd_same, ?_, by rw [List.length_append]; exact Nat.succ_le_succ wl, fun r hr => ?_⟩
          · exact same_mut (sm3.trans (sm4.trans (same_new hu))) hsa
          · rw [List.map_append]
            refine DpAll.mut (noTup_lst ((upd_ne nsu).trans hs4)) (nls_of fun d hd => ?_) (dpAll_snoc (DpAll.same (sm4.trans (same_new hu)) dw) (.tup (SqT.of upd_same) (.cons (.int _) (.cons (.int _) .nil))))
            rcases List.mem_append.mp hd with z | z
            · obtain ⟨r, _, rfl⟩ := List.mem_map.mp z; exact nl_pr r
            · rw [List.mem_singleton.mp z]; exact nl_pr (W, p)
          · rcases List.mem_append.mp hr with z | z
            · exact wn r z
            · rw [List.mem_singleton.mp z]; exact sum0
      · obtain ⟨ws, xs, p5', rfl, sm3, hs3, dw, wl, wn⟩ := h
        have sm03 := sm.trans sm3
        have src : ∀ H4, Same H3 H4 → Dp K H4 (.ref sa) (.list (ws.map prD)) := fun H4 s4 => .lst (SqL.of (s4 _ _ hs3)) (DpAll.same s4 dw)
        refine ⟨_, rfl, ?_⟩
        refine lcL (K := K) (enc := prD) (src _ (Same.refl _)) (fun r => if decide (r.1 < 2520) = true then some (natD r.2) else none) (by omega) (nl_opt fun r => nl_nat _) (fun r x H4 hr' sm4 dx => ?_) fun D H4 zs hD sm4 hz dz => ?_
        · obtain ⟨u, rfl, hu⟩ := pr_tup dx
          intro Qy Qn qy qn
          refine ⟨u, _, rfl, hu, rfl, _, _, rfl, _, _, rfl, rfl, rfl, ?_⟩
          refine ⟨_, rfl, _, _, rfl, rfl, _, rfl, ite2 (fun c => ?_) fun c => ?_⟩
          · exact ⟨_, rfl, qy _ _ _ (if_pos c) (Same.refl _) (.int _)⟩
          · exact qn (if_neg c) _ (Same.refl _)
        rw [fm_opt (c := fun r : Int × Nat => decide (r.1 < 2520)) (f := fun r => r.2) (g := natD)] at dz
        obtain rfl := nats_of dz
        refine ⟨_, rfl, D, _, rfl, .inl (SqL.of hz), rfl, _, rfl, ite2 (fun c => ?_) fun c => ?_⟩
        · exact back _ _ ⟨la, ks, gs, _, _, _, _, rfl, sm03.trans sm4, hga0, nlg, sm4 _ _ (sm3 _ _ hla), k12, sm4 _ _ (sm3 _ _ hga), by omega, gb⟩
        · have ne : ws.filter (fun r => decide (r.1 < 2520)) ≠ [] := fun z => c (by rw [z]; rfl)
          have hga4 := sm4 _ _ (sm3 _ _ hga)
          refine ⟨_, rfl, .inl ⟨rfl, _, SqL.of hga4⟩, ?_⟩
          refine ⟨_, rfl, ?_⟩
          refine lcL (K := K) (enc := prD) (src _ sm4) (fun r => if decide (r.1 < 2520) = true then some (.int r.1) else none) (by omega) (nl_opt fun r => .int _) (fun r x H5 hr' sm5 dx => ?_) fun D5 H5 zs5 hD5 sm5 hz5 dz5 => ?_
          · obtain ⟨u, rfl, hu⟩ := pr_tup dx
            intro Qy Qn qy qn
            refine ⟨u, _, rfl, hu, rfl, _, _, rfl, _, _, rfl, rfl, rfl, ?_⟩
            refine ⟨_, rfl, _, _, rfl, rfl, _, rfl, ite2 (fun c => ?_) fun c => ?_⟩
            · exact ⟨_, rfl, qy _ _ _ (if_pos c) (Same.refl _) (.int _)⟩
            · exact qn (if_neg c) _ (Same.refl _)
          rw [fm_opt (c := fun r : Int × Nat => decide (r.1 < 2520)) (f := fun r => r.1) (g := PyData.int)] at dz5
          obtain rfl := dpAll_ints_inv dz5
          refine ⟨D5, _, rfl, SqL.of hz5, by rw [List.length_map]; exact List.length_pos_iff.mpr ne, fun m hm _ => ?_⟩
          have mb : 0 ≤ m ∧ m < 2520 := by
            obtain ⟨r, hr', rfl⟩ := List.mem_map.mp hm
            obtain ⟨h1, h2⟩ := List.mem_filter.mp hr'
            exact ⟨wn r h1, of_decide_eq_true h2⟩
          refine ⟨_, _, rfl, rfl, ?_⟩
          have hga5 := sm5 _ _ hga4
          refine ⟨ga, _, _, rfl, rfl, hga5, by rw [List.length_map]; exact small1000 (by omega), ?_⟩
          have sm6 : Same H (upd H5 ga (.lst (gs.map V.int ++ [V.int (2520 - m)]))) := same_mut (sm03.trans (sm4.trans sm5)) hga0
          have nDg : D ≠ ga := fun z => by rw [z, sm3 _ _ hga] at hD; cases hD
          have hla6 : upd H5 ga (.lst (gs.map V.int ++ [V.int (2520 - m)])) la = some (.lst (ks.map natV)) := (upd_ne nlg).trans (sm5 _ _ (sm4 _ _ (sm3 _ _ hla)))
          have hD6 : upd H5 ga (.lst (gs.map V.int ++ [V.int (2520 - m)])) D = some (.lst (((ws.filter fun r => decide (r.1 < 2520)).map fun r => r.2).map natV)) := (upd_ne nDg).trans (sm5 _ _ hz)
          have hga6 : upd H5 ga (.lst (gs.map V.int ++ [V.int (2520 - m)])) ga = some (.lst ((gs ++ [2520 - m]).map V.int)) := by rw [upd_same, List.map_append]; rfl
          generalize ((ws.filter fun r => decide (r.1 < 2520)).map fun r => r.2) = ss at hD6
          refine ⟨_, rfl, ?_⟩
          refine lcL (K := K) (enc := natD) (dp_nats (SqL.of hla6)) (fun p => if (!decide (p ∈ ss)) = true then some (natD p) else none) (by omega) (nl_opt fun r => nl_nat _) (fun p x H7 hp' sm7 dx => ?_) fun D7 H7 zs7 hD7 sm7 hz7 dz7 => ?_
          · obtain rfl := dp_int dx
            intro Qy Qn qy qn
            refine ⟨rfl, _, rfl, _, rfl, D, _, rfl, .inl (SqL.of (sm7 _ _ hD6)), rfl, flat_ints, _, rfl, ?_⟩
            show if (!inV (.int ((p : Nat) : Int)) _) = true then _ else _
            rw [in_nats]
            refine ite2 (fun c => ?_) fun c => ?_
            · exact ⟨_, rfl, qy _ _ _ (if_pos c) (Same.refl _) (.int _)⟩
            · exact qn (if_neg c) _ (Same.refl _)
          · rw [fm_filter] at dz7
            obtain rfl := nats_of dz7
            refine ⟨D7, ks.filter (fun p => !decide (p ∈ ss)), gs ++ [2520 - m], _, _, _, _, rfl, sm6.trans sm7, hga0, (fun z => by rw [z, hga6] at hD7; cases hD7), hz7, Nat.le_trans (List.length_filter_le _ _) k12, sm7 _ _ hga6, by rw [List.length_append]; exact Nat.succ_le_succ gl, fun g hg => ?_⟩
            rcases List.mem_append.mp hg with z | z
            · exact gb g z
            · rw [List.mem_singleton.mp z]; omega
    · obtain ⟨la, ks, gs, p3, p4, p5, p6, rfl, sm, _, nlg, hla, k12, hga, gl, gb⟩ := h
      refine ⟨_, rfl, ga, _, rfl, SqL.of hga, fun ra hra => ?_⟩
      rw [← List.map_reverse]
      refine forL (K := K) (enc := PyData.int) (ints_data upd_same) (fun i σ H2 => ∃ (s : Int) (p8 : Option V), σ = [some (.ref t), some (.ref la), some (.ref ga), p3, p4, p5, p6, some (.int s), p8, none, none, none, none, none] ∧ Same (upd H1 ra (.lst (gs.reverse.map V.int))) H2) ⟨_, _, rfl, Same.refl _⟩ (fun i σ H2 h => ?_) (fun i z x σ H2 hi dx h => ?_) fun σ H2 h => ?_
      · obtain ⟨_, _, _, s2⟩ := h
        exact ints_data (s2 _ _ upd_same)
      · obtain ⟨s, p8, rfl, s2⟩ := h
        obtain rfl := dp_int dx
        have zb := gb z (List.mem_reverse.mp (List.mem_of_getElem? hi))
        exact ⟨_, rfl, _, _, rfl, rfl, _, _, rfl, rfl, .inr ⟨by omega, by omega⟩, _, rfl, _, _, rfl, rfl, ⟨by omega, by omega⟩, _, _, rfl, rfl, _, _, rfl, s2⟩
      · obtain ⟨s, p8, rfl, s2⟩ := h
        exact ⟨_, rfl, q H2 s (sm.trans ((same_new hra).trans s2))⟩
theorem Dp.toL {H : Hp} {D : Addr} {xs : List V} {ds : List PyData} (h : H D = some (.lst xs)) (d : DpAll K H xs ds) : Dp K H (.ref D) (.list ds) := .lst (SqL.of h) d
def milder (a : A4) : A4 := ⟨a.p, a.c, if a.y > 1 then 9 else a.y, a.g⟩
theorem ToldOk.milder {n : Nat} {ars : List A4} (h : ToldOk n ars) : ToldOk n (ars.map milder) := by
  refine ⟨h.pos, h.few, by rw [List.length_map]; exact h.one, by rw [List.length_map]; exact h.len, fun a ha => ?_, ?_, fun p hp => ?_, fun p hp => ?_⟩
  · obtain ⟨b, hb, rfl⟩ := List.mem_map.mp ha
    obtain ⟨h1, h2, h3, h4, h5⟩ := h.arr b hb
    refine ⟨h1, ?_, h3, h4, h5⟩
    show (if b.y > 1 then 9 else b.y) ≤ 9
    split
    · exact Nat.le_refl _
    · exact h2
  · exact List.Pairwise.map _ (fun a b h => h) h.asc
  · obtain ⟨a, ha, e⟩ := h.all p hp
    exact ⟨_, List.mem_map.mpr ⟨a, ha, rfl⟩, e⟩
  · rw [List.filter_map, List.length_map]
    exact h.four p hp
def spMild (K : PySem.W.Frag) : Sp := fun vs H Q _ => ∃ (v : V) (n : Nat) (ars : List A4), vs = [v] ∧ Dp K H v (toldD n ars) ∧ ToldOk n ars ∧ ∀ H' v' ars', Same H H' → Dp K H' v' (toldD n ars') → ToldOk n ars' → Q v' H'
theorem sc_law_mild : FnScope ["_law_told_here", "_law_place", "_law_letter", "_law_pay", "_law_goal"] ["_law_told_here"] (defScope s__law_mild) := ⟨rfl, rfl, rfl, by decide +kernel, rfl, by decide +kernel, by decide +kernel⟩
theorem c_law_mild (F : Fx K mg) : C8.Cal P w K mg base 2 "_law_mild" (spMild K) [] := by
  refine (F.cal (d := d__law_mild) (k := 1) 48 (j := 46) rfl rfl rfl sc_law_mild (fun _ _ _ _ _ _ us hl => match us, hl with | [_], _ => rfl) (fun vs H Q E h => ?_) (fun f cdv A outer s H vs Q E hr h => ?_))
  · obtain ⟨v, n, ars, rfl, _⟩ := h; rfl
  · refine ⟨_, (pss_cons (ps_if (pt_cmpR op_le (C8.pe_c (c_law_bound F) hr (by decide) (by rfl) (pa_cons (pv 0) pa_nil)) pe_int (nomark _)) (pss_one (ps_ret (pv 0))) pss_nil)
      (pss_one (ps_ret (pe_tup (pa_cons (pe_ix (ixT (K := K) rfl) (pv 0) pe_int (fun _ _ => rfl)) (pa_cons (pe_callTy (tupOf (K := K) rfl) (by rfl) F.tuple (by decide +kernel) (pa_cons (pe_lc (own := [("_law_place", 1), ("_law_letter", 2), ("_law_pay", 3), ("_law_goal", 4)]) (g := gTup K 4 (gCons (gName 1) (gCons (gName 2) (gCons (gName 3) (gCons (gName 4) (gNil)))))) rfl sc_law_mild.nd (piT (K := K) rfl (pe_ix (ixT (K := K) rfl) (pv 0) pe_int (fun _ _ => rfl))) (blkOk_by (own := [("_law_place", 1), ("_law_letter", 2), ("_law_pay", 3), ("_law_goal", 4)]) (N := ["_law_told_here", "_law_place", "_law_letter", "_law_pay", "_law_goal"]) (sc := defScope s__law_mild) (by decide +kernel)) (fun _ _ _ _ _ => (tupK (K := K) (n := 4) rfl rfl (pgs_cons (pg_name (i := 1) sc_law_mild.nd rfl (Or.inl rfl)) (pgs_cons (pg_name (i := 2) sc_law_mild.nd rfl (Or.inl rfl)) (pgs_cons (pg_name (i := 3) sc_law_mild.nd rfl (Or.inl rfl)) (pgs_cons (pg_name (i := 4) sc_law_mild.nd rfl (Or.inl rfl)) pgs_nil)))))) (fun _ _ _ _ _ => pts_nil) (fun _ _ _ _ _ => (pe_tup (pa_cons (pv 1) (pa_cons (pv 2) (pa_cons (pe_ix (ixL (K := K) rfl) (pe_lst (pa_cons (pv 3) (pa_cons pe_int pa_nil))) (pe_callTy call_int1 (by rfl) F.int (by decide +kernel) (pa_cons (pe_cmpR op_gt (pv 3) pe_int (nomark _)) pa_nil)) (fun _ _ => rfl)) (pa_cons (pv 4) pa_nil))))))) pa_nil)) pa_nil)))))), ?_⟩
    obtain ⟨v, n, ars, rfl, hv, ok, q⟩ := h
    have l48 := ok.len
    refine ⟨_, rfl, v, n, ars, rfl, hv, ok, fun H1 i sm1 => ?_⟩
    refine ⟨_, _, rfl, rfl, _, rfl, ite2 (fun c => ?_) fun c => ?_⟩
    · exact ⟨_, rfl, q H1 v ars sm1 (Dp.same sm1 hv) ok⟩
    · obtain ⟨t, y, rfl, ht, hy⟩ := told_tup hv
      refine ⟨_, rfl, t, _, _, _, rfl, rfl, same_t sm1 ht, rfl, ?_⟩
      refine ⟨_, rfl, t, _, _, _, rfl, rfl, same_t sm1 ht, rfl, ?_⟩
      refine lcT (K := K) (enc := arD) (Dp.same sm1 hy) (fun a => some (arD (milder a))) (by omega) (fun a d e => by cases e; exact nl_ar _) (fun a x H2 ha sm2 dx => ?_) fun D H2 xs hD sm2 hx dx => ?_
      · obtain ⟨u, rfl, hu⟩ := ar_tup dx
        intro Qy Qn qy qn
        refine ⟨u, _, rfl, hu, rfl, _, _, rfl, _, _, rfl, _, _, rfl, _, _, rfl, rfl, rfl, ?_⟩
        unfold tYes
        refine ite2 (fun _ => ?_) fun c => absurd rfl c
        refine ⟨_, rfl, _, rfl, _, rfl, sz (by simp), fun b hb => ?_⟩
        refine ⟨_, rfl, _, _, rfl, rfl, .inr ⟨_, rfl, ?_⟩⟩
        have hy' : (if (a.y : Int) > 1 then (1 : Int) else 0) = (if a.y > 1 then 1 else 0 : Nat) := by
          by_cases z : a.y > 1
          · rw [if_pos z, if_pos (by omega)]; rfl
          · rw [if_neg z, if_neg (by omega)]; rfl
        refine ⟨b, _, _, .int (((milder a).y : Nat) : Int), rfl, rfl, SqL.of upd_same, ?_, _, rfl, sz (by simp), fun u2 hu2 => qy _ _ _ rfl ((same_new hb).trans (same_new hu2)) (.tup (SqT.of upd_same) (.cons (.int _) (.cons (.str _) (.cons (.int _) (.cons (.int _) .nil)))))⟩
        show atI _ (if decide ((1 : Int) < (a.y : Int)) = true then 1 else 0) = _
        unfold milder
        by_cases z : a.y > 1
        · rw [if_pos (decide_eq_true (by omega)), if_pos z]
          exact atI_nat (j := 1) rfl
        · rw [if_neg (fun k => z (by have := of_decide_eq_true k; omega)), if_neg z]
          exact atI_nat (j := 0) rfl
      · rw [fmS] at dx
        have dx2 : DpAll K H2 xs ((ars.map milder).map arD) := by rw [List.map_map]; exact dx
        refine ⟨D, _, rfl, .inl ⟨SqL.of hx, fun l hl => ?_⟩⟩
        refine ⟨sz (by simp), fun u hu => ?_⟩
        refine q _ _ (ars.map milder) (sm1.trans (sm2.trans ((same_new hl).trans (same_new hu)))) ?_ ok.milder
        refine .tup (SqT.of upd_same) (.cons (.int _) (.cons ?_ .nil))
        refine Dp.same (same_new hu) (.tup (SqT.of upd_same) (DpAll.same (same_new hl) dx2))
end
end K68
set_option maxRecDepth 100000
set_option maxHeartbeats 400000
namespace K68
open PySem PySem.Spec PyProof.Rows L2
structure TB (n : Nat) (cs : List Nat) (ars : List A4) (i : Nat) : Prop where
  arr : ∀ a ∈ ars, a.p < i ∧ a.y ≤ 9 ∧ a.g < n ∧ a.c ∈ cs
  asc : ars.Pairwise A4.lt
  all : ∀ p, p < i → ∃ a ∈ ars, a.p = p
  four : ∀ p, (ars.filter fun a => decide (a.p = p)).length ≤ 4
  len : ars.length ≤ 4 * i
theorem TB.told {n : Nat} {cs : List Nat} {ars : List A4} (h : TB n cs ars n) (n1 : 1 ≤ n) (n12 : n ≤ 12) (hc : ∀ x ∈ cs, 97 ≤ x ∧ x ≤ 122) : ToldOk n ars := by
  refine ⟨n1, n12, ?_, ?_, fun a ha => ?_, h.asc, h.all, fun p _ => h.four p⟩
  · obtain ⟨a, ha, _⟩ := h.all 0 (by omega)
    exact List.length_pos_iff.mpr (List.ne_nil_of_mem ha)
  · have := h.len; omega
  · obtain ⟨h1, h2, h3, h4⟩ := h.arr a ha
    obtain ⟨c1, c2⟩ := hc _ h4
    exact ⟨h1, h2, h3, c1, c2⟩
/-- the arrows of one place -/
structure TS1 (n i : Nat) (sc : List Nat) (bs : List A4) (j : Nat) : Prop where
  arr : ∀ b ∈ bs, b.p = i ∧ b.y ≤ 9 ∧ b.g < n
  sgn : bs.map (·.c) = sc.take j
theorem TB.step {n : Nat} {cs : List Nat} {ars : List A4} {i : Nat} (h : TB n cs ars i) {sc : List Nat} {bs : List A4} (sub : ∀ x ∈ sc, x ∈ cs) (asc : sc.Pairwise (· < ·)) (ne : sc ≠ []) (l4 : sc.length ≤ 4) (b : TS1 n i sc bs sc.length) : TB n cs (ars ++ bs) (i + 1) := by
  have sg := b.sgn
  rw [List.take_length] at sg
  have bl : bs.length = sc.length := by rw [← sg, List.length_map]
  refine ⟨fun a ha => ?_, ?_, fun p hp => ?_, fun p => ?_, ?_⟩
  · rcases List.mem_append.mp ha with z | z
    · obtain ⟨h1, h2⟩ := h.arr a z
      exact ⟨by omega, h2⟩
    · obtain ⟨h1, h2, h3⟩ := b.arr a z
      exact ⟨by omega, h2, h3, sub _ (by rw [← sg]; exact List.mem_map.mpr ⟨a, z, rfl⟩)⟩
  · rw [List.pairwise_append]
    refine ⟨h.asc, ?_, fun a ha c hc => .inl ?_⟩
    · rw [← sg, List.pairwise_map] at asc
      exact List.Pairwise.imp_of_mem (fun {x y} hx hy lt => .inr ⟨by rw [(b.arr x hx).1, (b.arr y hy).1], lt⟩) asc
    · rw [(b.arr c hc).1]; exact (h.arr a ha).1
  · by_cases e : p = i
    · obtain ⟨x, r, ex⟩ := List.exists_cons_of_ne_nil ne
      have bne : bs ≠ [] := fun z => by rw [z, ex] at sg; cases sg
      obtain ⟨y, r2, ey⟩ := List.exists_cons_of_ne_nil bne
      have hy : y ∈ bs := by rw [ey]; exact List.mem_cons_self
      exact ⟨y, List.mem_append.mpr (.inr hy), by rw [(b.arr y hy).1, e]⟩
    · obtain ⟨a, ha, ea⟩ := h.all p (by omega)
      exact ⟨a, List.mem_append.mpr (.inl ha), ea⟩
  · rw [List.filter_append, List.length_append]
    by_cases e : p = i
    · have : ars.filter (fun a => decide (a.p = p)) = [] := List.filter_eq_nil_iff.mpr fun a ha z => by
        have := (h.arr a ha).1
        have := of_decide_eq_true z
        omega
      rw [this]
      have := List.length_filter_le (fun a => decide (a.p = p)) bs
      simp
      omega
    · have : bs.filter (fun a => decide (a.p = p)) = [] := List.filter_eq_nil_iff.mpr fun a ha z => by
        have := (b.arr a ha).1
        have := of_decide_eq_true z
        omega
      rw [this]
      have := h.four p
      simp
      omega
  · rw [List.length_append]
    have := h.len
    omega
section
variable {P : Program} {w : World} {K : PySem.W.Frag} {mg : Str → Option Value} {base : Heap}
def spLawTold (K : PySem.W.Frag) : Sp := fun vs H Q _ => ∃ (p c : Addr) (few : Nat), vs = [.ref p, .int (few : Int)] ∧ Pool H p c ∧ 1 ≤ few ∧ few ≤ 12 ∧ ∀ H' v n ars, SameP p c H H' → Pool H' p c → Dp K H' v (toldD n ars) → ToldOk n ars → Q v H'
/-- a list of mine: it isn't the pool's -/
def Mine (H : Hp) (p c a : Addr) (xs : List V) : Prop := a ≠ p ∧ a ≠ c ∧ H a = some (.lst xs)
theorem Mine.sp {H H' : Hp} {p c a : Addr} {xs : List V} (m : Mine H p c a xs) (s : SameP p c H H') : Mine H' p c a xs := ⟨m.1, m.2.1, s a _ m.1 m.2.1 m.2.2⟩
theorem Mine.new {H : Hp} {p c a : Addr} {xs : List V} (h : Pool H p c) (n : H a = none) : Mine (upd H a (.lst xs)) p c a xs := ⟨(h.ne n).1, (h.ne n).2, upd_same⟩
theorem Mine.same {H H' : Hp} {p c a : Addr} {xs : List V} (m : Mine H p c a xs) (s : Same H H') : Mine H' p c a xs := ⟨m.1, m.2.1, s _ _ m.2.2⟩
theorem Mine.mk {H : Hp} {p c a : Addr} {xs : List V} (h : Pool H p c) (n : H a = none) : Pool (upd H a (.lst xs)) p c ∧ Mine (upd H a (.lst xs)) p c a xs ∧ Same H (upd H a (.lst xs)) := ⟨h.put (h.ne n).1 (h.ne n).2, .new h n, same_new n⟩
theorem Mine.diff {H : Hp} {p c a b : Addr} {xs : List V} (m : Mine H p c a xs) (n : H b = none) : a ≠ b := fun z => by
  have := m.2.2
  rw [z, n] at this
  cases this
def ToInv (K : PySem.W.Frag) (H0 : Hp) (p c : Addr) (few kd n : Nat) (sa pa fa : Addr) (cs ys : List Nat) (i : Nat) (σ : L2.St) (H : Hp) : Prop := ∃ (ars : List A4) (xs : List V) (p7 p8 p9 : Option V), σ = [some (.ref p), some (.int (few : Int)), some (.int (kd : Int)), some (.int (n : Int)), some (.ref sa), some (.ref pa), some (.ref fa), p7, p8, p9] ∧
  SameP p c H0 H ∧ Pool H p c ∧ Mine H p c sa (cs.map sgV) ∧ Mine H p c pa (ys.map natV) ∧ Mine H p c fa xs ∧ DpAll K H xs (ars.map arD) ∧ TB n cs ars i
theorem told_loop {D : Ends} {H0 H9 : Hp} {p c : Addr} {few kd n : Nat} {sa pa fa so : Addr} {cs ys sc : List Nat} {i : Nat} {ars : List A4} {xs : List V} {p9 : Option V} (n12 : n ≤ 12) (n1 : 1 ≤ n) (i12 : i < n) (y9 : ∀ y ∈ ys, y ≤ 9) (yl : 1 ≤ ys.length) (yu : ys.length ≤ 10)
    (s9 : SameP p c H0 H9) (fa0 : H0 fa = none) (P9 : Pool H9 p c) (msa : Mine H9 p c sa (cs.map sgV)) (mpa : Mine H9 p c pa (ys.map natV)) (mfa : Mine H9 p c fa xs) (mso : Mine H9 p c so (sc.map sgV)) (nsf : sa ≠ fa) (npf : pa ≠ fa) (nof : so ≠ fa) (dx : DpAll K H9 xs (ars.map arD)) (tb : TB n cs ars i)
    (sub : ∀ x ∈ sc, x ∈ cs) (asc : sc.Pairwise (· < ·)) (ne : sc ≠ []) (l4 : sc.length ≤ 4) (fin : ∀ σ H, ToInv K H0 p c few kd n sa pa fa cs ys (i + 1) σ H → D.nx σ H) :
    tFor (iList K (tVar 8)) (gName 9) (tDrop (tBM K "list" rAppend (tVar 6) (tCons (tTup (tCons (tVar 7) (tCons (tVar 9) (tCons (tOp (rIxL K) (tVar 5) (tCall spDraw [] C8.E0 (tCons (tVar 0) (tCons (tCB (rLenK K) (tCons (tVar 5) tNil)) tNil)))) (tCons (tCall spDraw [] C8.E0 (tCons (tVar 0) (tCons (tVar 3) tNil))) tNil))))) tNil))) D
      [some (.ref p), some (.int (few : Int)), some (.int (kd : Int)), some (.int (n : Int)), some (.ref sa), some (.ref pa), some (.ref fa), some (.int (i : Int)), some (.ref so), p9] H9 := by
  refine ⟨_, rfl, ?_⟩
  refine forL (K := K) (enc := sgD) (dp_sgs mso.2.2) (fun j σ H => ∃ (bs : List A4) (zs : List V) (p9 : Option V), σ = [some (.ref p), some (.int (few : Int)), some (.int (kd : Int)), some (.int (n : Int)), some (.ref sa), some (.ref pa), some (.ref fa), some (.int (i : Int)), some (.ref so), p9] ∧
      SameP p c H0 H ∧ Pool H p c ∧ Mine H p c sa (cs.map sgV) ∧ Mine H p c pa (ys.map natV) ∧ Mine H p c fa zs ∧ Mine H p c so (sc.map sgV) ∧ DpAll K H zs ((ars ++ bs).map arD) ∧ TS1 n i sc bs j)
    ⟨[], xs, _, rfl, s9, P9, msa, mpa, mfa, mso, by rw [List.append_nil]; exact dx, ⟨by simp, by simp⟩⟩ (fun j σ H h => ?_) (fun j g x σ H hj dg h => ?_) fun σ H h => ?_
  · obtain ⟨_, _, _, _, _, _, _, _, _, m, _⟩ := h
    exact dp_sgs m.2.2
  · obtain ⟨bs, zs, p9, rfl, s1, P1, msa1, mpa1, mfa1, mso1, dz, ts⟩ := h
    obtain rfl := dp_str dg
    have ysl : (ys.map natV).length = ys.length := List.length_map _
    refine ⟨_, rfl, .inl ⟨rfl, _, SqL.of mfa1.2.2⟩, ?_⟩
    refine ⟨_, rfl, _, rfl, _, rfl, _, rfl, _, rfl, pa, _, rfl, .inl (SqL.of mpa1.2.2), p, c, (ys.map natV).length, rfl, P1, by omega, by omega, fun H2 d s2 P2 dlt => ?_⟩
    have hd : d < ys.length := by omega
    have hg : (ys.map natV)[d]? = some (natV ys[d]) := by rw [List.getElem?_map, List.getElem?_eq_getElem hd]; rfl
    have yd := y9 _ (List.getElem_mem hd)
    generalize ys[d] = yy at hg yd
    refine ⟨pa, _, _, _, rfl, rfl, SqL.of (mpa1.sp s2).2.2, atI_nat hg, ?_⟩
    refine ⟨_, rfl, _, rfl, p, c, n, rfl, P2, by omega, by omega, fun H3 e s3 P3 elt => ?_⟩
    refine ⟨sz (by simp), fun t ht => ?_⟩
    have s13 := s2.trans s3
    have mfa3 := mfa1.sp s13
    have mfa4 := mfa3.same (same_new (o := .tup [.int (i : Int), .str (sg g), natV yy, .int (e : Int)]) ht)
    have nl : NLs ((ars ++ bs).map arD) := nls_of fun d hd => by obtain ⟨a, _, rfl⟩ := List.mem_map.mp hd; exact nl_ar a
    have dz4 := DpAll.same (same_new (o := .tup [.int (i : Int), .str (sg g), natV yy, .int (e : Int)]) ht) (DpAll.sp P1 s13 nl dz)
    have zl := enc_len dz
    have jl : j < sc.length := (List.getElem?_eq_some_iff.mp hj).1
    have bsl : bs.length ≤ 4 := by
      have := congrArg List.length ts.sgn
      rw [List.length_map, List.length_take] at this
      omega
    have al := tb.len
    rw [List.length_append] at zl
    refine ⟨fa, zs, _, rfl, rfl, mfa4.2.2, small1000 (by omega), bs ++ [⟨i, g, yy, e⟩], zs ++ [.ref t], _, rfl, ?_, ?_, ?_, ?_, ⟨mfa4.1, mfa4.2.1, upd_same⟩, ?_, ?_, ⟨fun b hb => ?_, ?_⟩⟩
    · exact ((s1.trans s13).trans (.of (same_new ht))).put fa0
    · exact (P3.same (same_new ht)).put mfa4.1 mfa4.2.1
    · have m := (msa1.sp s13).same (same_new (o := .tup [.int (i : Int), .str (sg g), natV yy, .int (e : Int)]) ht)
      exact ⟨m.1, m.2.1, (upd_ne nsf).trans m.2.2⟩
    · have m := (mpa1.sp s13).same (same_new (o := .tup [.int (i : Int), .str (sg g), natV yy, .int (e : Int)]) ht)
      exact ⟨m.1, m.2.1, (upd_ne npf).trans m.2.2⟩
    · have m := (mso1.sp s13).same (same_new (o := .tup [.int (i : Int), .str (sg g), natV yy, .int (e : Int)]) ht)
      exact ⟨m.1, m.2.1, (upd_ne nof).trans m.2.2⟩
    · rw [← List.append_assoc, List.map_append]
      refine DpAll.mut (noTup_lst mfa4.2.2) (nls_of fun d hd => ?_) (dpAll_snoc dz4 (.tup (SqT.of upd_same) (.cons (.int _) (.cons (.str _) (.cons (.int _) (.cons (.int _) .nil))))))
      rcases List.mem_append.mp hd with z | z
      · obtain ⟨a, _, rfl⟩ := List.mem_map.mp z; exact nl_ar a
      · rw [List.mem_singleton.mp z]; exact nl_ar ⟨i, g, yy, e⟩
    · rcases List.mem_append.mp hb with z | z
      · exact ts.arr b z
      · rw [List.mem_singleton.mp z]; exact ⟨rfl, yd, elt⟩
    · rw [List.map_append, ts.sgn, List.take_succ, hj]; rfl
  · obtain ⟨bs, zs, p9, rfl, s1, P1, msa1, mpa1, mfa1, mso1, dz, ts⟩ := h
    exact fin _ _ ⟨ars ++ bs, zs, _, _, _, rfl, s1, P1, msa1, mpa1, mfa1, dz, tb.step sub asc ne l4 ts⟩
theorem sc_law_told : FnScope ["_law_pool_here", "_law_few", "_law_kind", "_law_places", "_law_signs_here", "_law_pays", "_law_found", "_law_place", "_law_some", "_law_sign"] ["_law_pool_here", "_law_few"] (defScope s__law_told) := ⟨rfl, rfl, rfl, by decide +kernel, rfl, by decide +kernel, by decide +kernel⟩
theorem c_law_told (F : Fx K mg) : C8.Cal P w K mg base 3 "_law_told" (spLawTold K) [] := by
  refine (F.cal (d := d__law_told) (k := 2) 49 (j := 47) rfl rfl rfl sc_law_told (fun _ _ _ _ _ _ us hl => match us, hl with | [_, _], _ => rfl) (fun vs H Q E h => ?_) (fun f cdv A outer s H vs Q E hr h => ?_))
  · obtain ⟨p, c, few, rfl, _⟩ := h; rfl
  · refine ⟨_, (pss_cons (ps_set (i := 2) sc_law_told.nd rfl (Or.inr rfl) (C8.pe_c (c_law_draw F) hr (by decide) (by rfl) (pa_cons (pv 0) (pa_cons pe_int pa_nil))))
      (pss_cons (ps_set (i := 3) sc_law_told.nd rfl (Or.inl rfl) (pe_op op_add pe_int (C8.pe_c (c_law_draw F) hr (by decide) (by rfl) (pa_cons (pv 0) (pa_cons (pv 1) pa_nil)))))
      (pss_cons (ps_set (i := 4) sc_law_told.nd rfl (Or.inl rfl) (C8.pe_c (c_law_signs F) hr (by decide) (by rfl) (pa_cons (pv 0) (pa_cons (pe_op op_add pe_int (C8.pe_c (c_law_draw F) hr (by decide) (by rfl) (pa_cons (pv 0) (pa_cons pe_int pa_nil)))) pa_nil))))
      (pss_cons (ps_set (i := 5) sc_law_told.nd rfl (Or.inl rfl) (pe_ix (ixL (K := K) rfl) (pe_lst (pa_cons (pe_lst (pa_cons pe_int (pa_cons pe_int (pa_cons pe_int pa_nil)))) (pa_cons (pe_lst (pa_cons pe_int (pa_cons pe_int (pa_cons pe_int (pa_cons pe_int pa_nil))))) (pa_cons (pe_lst (pa_cons pe_int (pa_cons pe_int (pa_cons pe_int pa_nil)))) (pa_cons (pe_lst (pa_cons pe_int (pa_cons pe_int (pa_cons pe_int (pa_cons pe_int (pa_cons pe_int (pa_cons pe_int (pa_cons pe_int (pa_cons pe_int (pa_cons pe_int (pa_cons pe_int pa_nil))))))))))) (pa_cons (pe_lst (pa_cons pe_int (pa_cons pe_int (pa_cons pe_int pa_nil)))) pa_nil)))))) (pv 2) (fun _ _ => rfl)))
      (pss_cons (ps_set (i := 6) sc_law_told.nd rfl (Or.inl rfl) (pe_lst pa_nil))
      (pss_cons (ps_for PassesOwn.never rfl (pi_range1 (by rfl) F.range (pa_cons (pv 3) pa_nil)) (pg_name (i := 7) sc_law_told.nd rfl (Or.inl rfl)) (pss_cons (ps_setLc (i := 8) (own := [("_law_sign", 9)]) (g := gName 9) rfl sc_law_told.nd rfl rfl (sw_true rfl rfl rfl (by decide +kernel)) (piL (K := K) rfl (pv 4)) (blkOk_by (own := [("_law_sign", 9)]) (N := ["_law_pool_here", "_law_few", "_law_kind", "_law_places", "_law_signs_here", "_law_pays", "_law_found", "_law_place", "_law_some", "_law_sign"]) (sc := defScope s__law_told) (by decide +kernel)) (fun _ _ _ _ _ => (pg_name (i := 9) sc_law_told.nd rfl (Or.inl rfl))) (fun _ _ _ _ _ => (pts_one (PW.pt (pw_or (pt_cmpR op_lt (pv 2) pe_int (nomark _)) (pw_or1 (pt_cmpR op_gt (C8.pe_c (c_law_draw F) hr (by decide) (by rfl) (pa_cons (pv 0) (pa_cons pe_int pa_nil))) pe_int (nomark _))))))) (fun _ _ _ _ _ => (pv 9)))
      (pss_cons (ps_if (pt_cmpR op_eq (pe_callB (lenS (K := K) rfl) (by rfl) F.len (by decide +kernel) (pa_cons (pv 8) pa_nil)) pe_int (nomark _)) (pss_one (ps_set (i := 8) sc_law_told.nd rfl (Or.inl rfl) (pe_lst (pa_cons (pe_ix (ixL (K := K) rfl) (pv 4) (C8.pe_c (c_law_draw F) hr (by decide) (by rfl) (pa_cons (pv 0) (pa_cons (pe_callB (lenS (K := K) rfl) (by rfl) F.len (by decide +kernel) (pa_cons (pv 4) pa_nil)) pa_nil))) (fun _ _ => rfl)) pa_nil)))) pss_nil)
      (pss_one (ps_for PassesOwn.never rfl (piL (K := K) rfl (pv 8)) (pg_name (i := 9) sc_law_told.nd rfl (Or.inl rfl)) (pss_one (ps_expr (pe_bm PySem.F.plainAttrs_list PySem.F.slot_list_append PySem.F.type_list_append mt_append (pv 6) (pa_cons (pe_tup (pa_cons (pv 7) (pa_cons (pv 9) (pa_cons (pe_ix (ixL (K := K) rfl) (pv 5) (C8.pe_c (c_law_draw F) hr (by decide) (by rfl) (pa_cons (pv 0) (pa_cons (pe_callB (lenS (K := K) rfl) (by rfl) F.len (by decide +kernel) (pa_cons (pv 5) pa_nil)) pa_nil))) (fun _ _ => rfl)) (pa_cons (C8.pe_c (c_law_draw F) hr (by decide) (by rfl) (pa_cons (pv 0) (pa_cons (pv 3) pa_nil))) pa_nil))))) pa_nil)))))))))
      (pss_one (ps_ret (C8.pe_c (c_law_mild F) hr (by decide) (by rfl) (pa_cons (pe_tup (pa_cons (pv 3) (pa_cons (pe_callTy (tupOf (K := K) rfl) (by rfl) F.tuple (by decide +kernel) (pa_cons (pe_callB (srtId (K := K) rfl hr.units) (by rfl) F.sorted (by decide +kernel) (pa_cons (pv 6) pa_nil)) pa_nil)) pa_nil))) pa_nil)))))))))), ?_⟩
    obtain ⟨p, c, few, rfl, hp, f1, f12, q⟩ := h
    refine ⟨_, rfl, p, c, 5, rfl, hp, by omega, by omega, fun H1 kd s1 hp1 kd5 => ?_⟩
    refine ⟨_, rfl, _, rfl, p, c, few, rfl, hp1, by omega, by omega, fun H2 e s2 hp2 elt => ?_⟩
    refine ⟨_, _, rfl, rfl, ?_⟩
    obtain ⟨n, hn⟩ : ∃ n : Nat, n = 1 + e := ⟨_, rfl⟩
    have en : (1 : Int) + (e : Int) = (n : Int) := by omega
    show gName 3 (V.int ((1 : Int) + (e : Int))) _ _ _
    rw [en]
    have n1 : 1 ≤ n := by omega
    have n12 : n ≤ 12 := by omega
    refine ⟨_, rfl, _, rfl, p, c, 4, rfl, hp2, by omega, by omega, fun H3 m s3 hp3 mlt => ?_⟩
    refine ⟨_, _, rfl, rfl, ?_⟩
    refine ⟨p, c, 1 + m, ?_, hp3, by omega, by omega, fun H4 sa cs s4 hp4 hsa hsa4 csl csr csa => ?_⟩
    · show [V.ref p, V.int ((1 : Int) + (m : Int))] = _
      have : ((1 + m : Nat) : Int) = 1 + (m : Int) := by omega
      rw [this]
    have s04 : SameP p c H H4 := s1.trans (s2.trans (s3.trans s4))
    have sa3 := hp3.ne hsa
    have msa : Mine H4 p c sa (cs.map sgV) := ⟨sa3.1, sa3.2, hsa4⟩
    refine ⟨sz (by simp), fun b0 h0 => ?_⟩
    obtain ⟨P0, M0, S0⟩ := Mine.mk (xs := [.int 2, .int 3, .int 4]) hp4 h0
    refine ⟨sz (by simp), fun b1 h1 => ?_⟩
    obtain ⟨P1, M1, S1⟩ := Mine.mk (xs := [.int 0, .int 1, .int 2, .int 3]) P0 h1
    refine ⟨sz (by simp), fun b2 h2 => ?_⟩
    obtain ⟨P2, M2, S2⟩ := Mine.mk (xs := [.int 3, .int 4, .int 5]) P1 h2
    refine ⟨sz (by simp), fun b3 h3 => ?_⟩
    obtain ⟨P3, M3, S3⟩ := Mine.mk (xs := [.int 0, .int 1, .int 2, .int 3, .int 4, .int 5, .int 6, .int 7, .int 8, .int 9]) P2 h3
    refine ⟨sz (by simp), fun b4 h4 => ?_⟩
    obtain ⟨P4, M4, S4⟩ := Mine.mk (xs := [.int 2, .int 3, .int 5]) P3 h4
    refine ⟨sz (by simp), fun bo ho => ?_⟩
    obtain ⟨P5, M5, S5⟩ := Mine.mk (xs := [.ref b0, .ref b1, .ref b2, .ref b3, .ref b4]) P4 ho
    have pick : ∃ (b : Addr) (ys : List Nat), ([V.ref b0, .ref b1, .ref b2, .ref b3, .ref b4] : List V)[kd]? = some (.ref b) ∧ Mine (upd (upd (upd (upd (upd (upd H4 b0 (.lst [.int 2, .int 3, .int 4])) b1 (.lst [.int 0, .int 1, .int 2, .int 3])) b2 (.lst [.int 3, .int 4, .int 5])) b3 (.lst [.int 0, .int 1, .int 2, .int 3, .int 4, .int 5, .int 6, .int 7, .int 8, .int 9])) b4 (.lst [.int 2, .int 3, .int 5])) bo (.lst [.ref b0, .ref b1, .ref b2, .ref b3, .ref b4])) p c b (ys.map natV) ∧ (∀ y ∈ ys, y ≤ 9) ∧ 1 ≤ ys.length ∧ ys.length ≤ 10 := by
      have : kd = 0 ∨ kd = 1 ∨ kd = 2 ∨ kd = 3 ∨ kd = 4 := by omega
      rcases this with rfl | rfl | rfl | rfl | rfl
      · exact ⟨b0, [2, 3, 4], rfl, ((((M0.same S1).same S2).same S3).same S4).same S5, by decide, by decide, by decide⟩
      · exact ⟨b1, [0, 1, 2, 3], rfl, (((M1.same S2).same S3).same S4).same S5, by decide, by decide, by decide⟩
      · exact ⟨b2, [3, 4, 5], rfl, ((M2.same S3).same S4).same S5, by decide, by decide, by decide⟩
      · exact ⟨b3, [0, 1, 2, 3, 4, 5, 6, 7, 8, 9], rfl, (M3.same S4).same S5, by decide, by decide, by decide⟩
      · exact ⟨b4, [2, 3, 5], rfl, M4.same S5, by decide, by decide, by decide⟩
    obtain ⟨pa, ys, pk, mpa, y9, yl, yu⟩ := pick
    have S05 := S0.trans (S1.trans (S2.trans (S3.trans (S4.trans S5))))
    refine ⟨_, rfl, bo, _, _, .ref pa, rfl, rfl, SqL.of M5.2.2, atI_nat pk, ?_⟩
    generalize hH5 : upd (upd (upd (upd (upd (upd H4 b0 (.lst [.int 2, .int 3, .int 4])) b1 (.lst [.int 0, .int 1, .int 2, .int 3])) b2 (.lst [.int 3, .int 4, .int 5])) b3 (.lst [.int 0, .int 1, .int 2, .int 3, .int 4, .int 5, .int 6, .int 7, .int 8, .int 9])) b4 (.lst [.int 2, .int 3, .int 5])) bo (.lst [.ref b0, .ref b1, .ref b2, .ref b3, .ref b4]) = H5 at P5 mpa S05
    clear M0 M1 M2 M3 M4 M5 S0 S1 S2 S3 S4 S5 P0 P1 P2 P3 P4 pk
    have msa5 := msa.same S05
    refine ⟨sz (by simp), fun fa hfa => ?_⟩
    obtain ⟨P6, mfa, S6⟩ := Mine.mk (xs := []) P5 hfa
    have s06 : SameP p c H (upd H5 fa (.lst [])) := s04.trans (.of (S05.trans S6))
    have hfa0 : H fa = none := (s04.trans (.of S05)).free P5 hfa
    have nsf := msa5.diff hfa
    have npf := mpa.diff hfa
    have msa6 := msa5.same S6
    have mpa6 := mpa.same S6
    refine ⟨_, rfl, _, rfl, by omega, by omega, ?_⟩
    have e1 : ((n : Nat) : Int).toNat = n := by omega
    rw [e1]
    refine for_it walk_range (ToInv K H p c few kd n sa pa fa cs ys) ⟨[], [], _, _, _, rfl, s06, P6, msa6, mpa6, mfa, .nil, ⟨by simp, .nil, fun p hp => by omega, by simp, by simp⟩⟩ (fun _ _ _ _ _ => True.intro) (fun i x σ H7 H8 hi h yy => ?_) fun σ H7 h => ?_
    · obtain ⟨rfl, rfl⟩ := yy
      obtain ⟨ars, xs, p7, p8, p9, rfl, s7, P7, msa7, mpa7, mfa7, dx, tb⟩ := h
      have ez : ((0 : Int) + (i : Nat)) = (i : Int) := by omega
      show gName 7 (V.int ((0 : Int) + (i : Nat))) _ _ _
      rw [ez]
      refine ⟨_, rfl, sa, rfl, ⟨_, SqL.of msa7.2.2⟩, fun D hD => ?_⟩
      obtain ⟨PD, mD, SD⟩ := Mine.mk (xs := []) P7 hD
      have nDf := (mfa7.diff hD).symm
      have nDs := (msa7.diff hD).symm
      have nDp := (mpa7.diff hD).symm
      have csl4 : cs.length ≤ 4 := by omega
      refine lc_it (walk_list (K := K) (a := sa) (xs := cs.map sgV)) (fun j H9 => SameP p c H8 H9 ∧ Pool H9 p c ∧ ∃ sc : List Nat, Mine H9 p c D (sc.map sgV) ∧ sc.Sublist (cs.take j)) ⟨.of SD, PD, [], mD, List.nil_sublist _⟩ (fun j H9 _ h => SqL.of (msa7.sp h.1).2.2) (fun j y H9 H10 hj h yy => ?_) fun H9 h => ?_
      · obtain ⟨rfl, hy⟩ := yy
        obtain ⟨s9, P9, sc, mD9, sub⟩ := h
        have hcj : ∃ g, cs[j]? = some g ∧ y = sgV g := by
          rw [List.getElem?_map] at hy
          cases eg : cs[j]? with
          | none => rw [eg] at hy; cases hy
          | some g => rw [eg] at hy; cases hy; exact ⟨g, rfl, rfl⟩
        obtain ⟨g, hg, rfl⟩ := hcj
        have tk : cs.take (j + 1) = cs.take j ++ [g] := by rw [List.take_succ, hg]; rfl
        have scl : sc.length ≤ 4 := Nat.le_trans sub.length_le (by rw [List.length_take]; omega)
        have skip : ∀ H11, SameP p c H10 H11 → Pool H11 p c → SameP p c H8 H11 ∧ Pool H11 p c ∧ ∃ sc : List Nat, Mine H11 p c D (sc.map sgV) ∧ sc.Sublist (cs.take (j + 1)) := fun H11 s11 P11 =>
          ⟨s9.trans s11, P11, sc, mD9.sp s11, by rw [tk]; exact sub.trans (List.sublist_append_left _ _)⟩
        have keep : ∀ H11, SameP p c H10 H11 → Pool H11 p c → ∃ acc, H11 D = some (.lst acc) ∧ acc.length < sizeLine ∧ (SameP p c H8 (upd H11 D (.lst (acc ++ [sgV g]))) ∧ Pool (upd H11 D (.lst (acc ++ [sgV g]))) p c ∧ ∃ sc : List Nat, Mine (upd H11 D (.lst (acc ++ [sgV g]))) p c D (sc.map sgV) ∧ sc.Sublist (cs.take (j + 1))) := fun H11 s11 P11 => by
          have m11 := mD9.sp s11
          refine ⟨_, m11.2.2, by rw [List.length_map]; exact small1000 (by omega), (s9.trans s11).put hD, P11.put m11.1 m11.2.1, sc ++ [g], ⟨m11.1, m11.2.1, by rw [upd_same, List.map_append]; rfl⟩, ?_⟩
          rw [tk]
          exact sub.append (List.Sublist.refl _)
        refine ⟨rfl, ?_⟩
        refine ⟨_, rfl, _, _, rfl, rfl, _, rfl, ite2 (fun d => ?_) fun d => ?_⟩
        · exact ⟨_, rfl, keep _ .refl P9⟩
        · refine ⟨_, rfl, p, c, 3, rfl, P9, by omega, by omega, fun H11 e11 s11 P11 _ => ?_⟩
          refine ⟨_, _, rfl, rfl, _, rfl, ite2 (fun d => ?_) fun d => ?_⟩
          · exact ⟨_, rfl, keep _ s11 P11⟩
          · exact skip _ s11 P11
      · rw [List.length_map, List.take_length] at h
        obtain ⟨s9, P9, sc, mD9, sub⟩ := h
        have cs4 : sc.length ≤ 4 := Nat.le_trans sub.length_le csl4
        have s79 := s7.trans s9
        have dx9 : DpAll K H9 xs (ars.map arD) := DpAll.sp P7 s9 (nls_of fun d hd => by obtain ⟨a, _, rfl⟩ := List.mem_map.mp hd; exact nl_ar a) dx
        refine ⟨_, rfl, D, _, rfl, .inl (SqL.of mD9.2.2), rfl, _, rfl, ite2 (fun cz => ?_) fun cz => ?_⟩
        · have zl : (cs.map sgV).length = cs.length := List.length_map _
          refine ⟨_, rfl, _, rfl, _, rfl, sa, _, rfl, .inl (SqL.of (msa7.sp s9).2.2), p, c, (cs.map sgV).length, rfl, P9, by omega, by omega, fun H11 d s11 P11 dlt => ?_⟩
          have hd : d < cs.length := by omega
          have hg : (cs.map sgV)[d]? = some (sgV cs[d]) := by rw [List.getElem?_map, List.getElem?_eq_getElem hd]; rfl
          have gm := List.getElem_mem hd
          generalize cs[d] = g at hg gm
          have s911 := s9.trans s11
          have msa11 := msa7.sp s911
          refine ⟨sa, _, _, _, rfl, rfl, SqL.of msa11.2.2, atI_nat hg, ?_⟩
          refine ⟨sz (by simp), fun so hso => ?_⟩
          obtain ⟨P12, mso, S12⟩ := Mine.mk (xs := [sgV g]) P11 hso
          have mfa11 := mfa7.sp s911
          exact told_loop (so := so) (sc := [g]) n12 n1 hi y9 yl yu ((s79.trans s11).trans (.of S12)) hfa0 P12 (msa11.same S12) ((mpa7.sp s911).same S12) (mfa11.same S12) mso nsf npf (mfa11.diff hso).symm (DpAll.same S12 (DpAll.sp P9 s11 (nls_of fun d hd => by obtain ⟨a, _, rfl⟩ := List.mem_map.mp hd; exact nl_ar a) dx9)) tb (fun x hx => by rw [List.mem_singleton.mp hx]; exact gm) (List.pairwise_singleton _ _) (by simp) (by simp) (fun _ _ h => h)
        · have ne : sc ≠ [] := fun z => cz (by rw [z]; rfl)
          exact told_loop (so := D) (sc := sc) n12 n1 hi y9 yl yu s79 hfa0 P9 (msa7.sp s9) (mpa7.sp s9) (mfa7.sp s9) mD9 nsf npf nDf dx9 tb (fun x hx => sub.subset hx) (csa.sublist sub) ne cs4 (fun _ _ h => h)
    · obtain ⟨ars, xs, p7, p8, p9, rfl, s7, P7, msa7, mpa7, mfa7, dx, tb⟩ := h
      have ok := tb.told n1 n12 csr
      refine ⟨_, rfl, ?_⟩
      refine ⟨_, rfl, fa, xs, _, rfl, SqL.of mfa7.2.2, dx, fun d hd => ?_, fun d hd d2 hd2 => ?_, ?_, fun l hl => ?_⟩
      · obtain ⟨a, _, rfl⟩ := List.mem_map.mp hd
        exact ⟨⟨_, _, rfl⟩, by simp [arD, PyData.depth, PyData.depthAll]⟩
      · obtain ⟨a, _, rfl⟩ := List.mem_map.mp hd
        obtain ⟨b, _, rfl⟩ := List.mem_map.mp hd2
        exact ar_alike a b
      · exact List.Pairwise.map _ (fun a b h => ar_not_lt h) tb.asc
      · refine ⟨l, _, rfl, .inl ⟨SqL.of upd_same, fun l2 hl2 => ?_⟩⟩
        refine ⟨sz (by simp), fun t ht => ?_⟩
        have S := (same_new (o := .lst xs) hl).trans ((same_new (o := .tup xs) hl2).trans (same_new (o := .tup [.int (n : Int), .ref l2]) ht))
        have d2 : DpAll K (upd (upd (upd H7 l (.lst xs)) l2 (.tup xs)) t (.tup [.int (n : Int), .ref l2])) xs (ars.map arD) := DpAll.same S dx
        have hl2' : upd (upd (upd H7 l (.lst xs)) l2 (.tup xs)) t (.tup [.int (n : Int), .ref l2]) l2 = some (.tup xs) := same_new ht _ _ upd_same
        exact ⟨_, n, ars, rfl, .tup (SqT.of upd_same) (.cons (.int _) (.cons (.tup (SqT.of hl2') d2) .nil)), ok, fun H9 v ars' S9 dv ok' => q H9 v n ars' (s7.trans (.of (S.trans S9))) (P7.same (S.trans S9)) dv ok'⟩
end
end K68
set_option maxRecDepth 100000
set_option maxHeartbeats 400000
namespace K68
open PySem PySem.Spec PyProof.Rows L2
section
variable {P : Program} {w : World} {K : PySem.W.Frag} {mg : Str → Option Value} {base : Heap}
def stepsAt (ars : List A4) (p : Nat) : List Arw := (ars.filter fun a => decide (a.p = p)).map arw
def spLawSteps (K : PySem.W.Frag) : Sp := fun vs H Q _ => ∃ (v : V) (n : Nat) (ars : List A4) (p : Nat), vs = [v, .int (p : Int)] ∧ Dp K H v (toldD n ars) ∧ ars.length ≤ 48 ∧ ∀ H' a, Same H H' → Dp K H' (.ref a) (.list ((stepsAt ars p).map stepD)) → (∃ xs, H' a = some (.lst xs) ∧ xs.length = (stepsAt ars p).length) → Q (.ref a) H'
theorem sc_law_steps : FnScope ["_law_told_here", "_law_place", "_law_arrow"] ["_law_told_here", "_law_place"] (defScope s__law_steps) := ⟨rfl, rfl, rfl, by decide +kernel, rfl, by decide +kernel, by decide +kernel⟩
theorem c_law_steps (F : Fx K mg) : C8.Cal P w K mg base 1 "_law_steps" (spLawSteps K) [] := by
  refine (F.cal (d := d__law_steps) (k := 0) 51 (j := 49) rfl rfl rfl sc_law_steps (fun _ _ _ _ _ _ us hl => match us, hl with | [_, _], _ => rfl) (fun vs H Q E h => ?_) (fun f cdv A outer s H vs Q E hr h => ?_))
  · obtain ⟨v, n, ars, p, rfl, _⟩ := h; rfl
  · refine ⟨_, (pss_one (ps_ret (pe_lc (own := [("_law_arrow", 2)]) (g := gName 2) rfl sc_law_steps.nd (piT (K := K) rfl (pe_ix (ixT (K := K) rfl) (pv 0) pe_int (fun _ _ => rfl))) (blkOk_by (own := [("_law_arrow", 2)]) (N := ["_law_told_here", "_law_place", "_law_arrow"]) (sc := defScope s__law_steps) (by decide +kernel)) (fun _ _ _ _ _ => (pg_name (i := 2) sc_law_steps.nd rfl (Or.inl rfl))) (fun _ _ _ _ _ => (pts_one (pt_cmpR op_eq (pe_ix (ixT (K := K) rfl) (pv 2) pe_int (fun _ _ => rfl)) (pv 1) (nomark _)))) (fun _ _ _ _ _ => (pe_slice (slT (K := K) rfl) (pv 2) (po_some pe_int) po_none))))), ?_⟩
    obtain ⟨v, n, ars, p, rfl, hv, hl, q⟩ := h
    obtain ⟨t, y, rfl, ht, hy⟩ := told_tup hv
    refine ⟨_, rfl, t, _, _, _, rfl, rfl, ht, rfl, ?_⟩
    refine lcT (K := K) (enc := arD) hy (fun a => if decide (a.p = p) = true then some (stepD (arw a)) else none) (by omega) (nl_opt fun a => nl_step _) (fun a x H2 ha sm2 dx => ?_) fun D H2 xs hD sm2 hx dx => ?_
    · obtain ⟨u, rfl, hu⟩ := ar_tup dx
      intro Qy Qn qy qn
      refine ⟨rfl, _, rfl, u, _, _, _, rfl, rfl, hu, rfl, _, rfl, rfl, _, rfl, ite2 (fun c => ?_) fun c => ?_⟩
      · have e : a.p = p := by have := V.int.inj (of_decide_eq_true c); omega
        refine ⟨_, rfl, _, rfl, u, _, rfl, hu, show ¬ (HT.sIx 4 0 (some 1) = 0 ∧ HT.sIx 4 4 none = 4) by decide, fun b hb => qy _ _ _ (if_pos (decide_eq_true e)) (same_new hb) ?_⟩
        exact .tup (SqT.of (upd_same.trans rfl)) (.cons (.str _) (.cons (.int _) (.cons (.int _) .nil)))
      · exact qn (if_neg fun z => c (decide_eq_true (by rw [of_decide_eq_true z]))) _ (Same.refl _)
    · rw [fm_opt (c := fun a : A4 => decide (a.p = p)) (f := arw) (g := stepD)] at dx
      exact q H2 D sm2 (.lst (SqL.of hx) dx) ⟨_, hx, by
        have := dpAll_len dx
        unfold stepsAt
        rw [List.length_map] at this
        exact this⟩
def spFlag : Sp := fun vs H Q _ => vs = [.bl true, .bl true] ∧ Q (.bl true) H
theorem sc_law_flag : FnScope ["_law_thing", "_law_due"] ["_law_thing", "_law_due"] (defScope s__law_flag) := ⟨rfl, rfl, rfl, by decide +kernel, rfl, by decide +kernel, by decide +kernel⟩
theorem c_law_flag (F : Fx K mg) : C8.Cal P w K mg base 1 "_law_flag" spFlag [] := by
  refine (F.cal (d := d__law_flag) (k := 0) 52 (j := 50) rfl rfl rfl sc_law_flag (fun _ _ _ _ _ _ us hl => match us, hl with | [_, _], _ => rfl) (fun vs H Q E h => ?_) (fun f cdv A outer s H vs Q E hr h => ?_))
  · obtain ⟨rfl, _⟩ := h; rfl
  · refine ⟨_, (pss_one (ps_ret (pe_and (pe_callB (isi (K := K) rfl) (by rfl) F.isinstance (by decide +kernel) (pa_cons (pv 0) (pa_cons (pe_bltn (v := .ty "bool") (u := .type "bool") (by rfl) F.bool (by decide +kernel) rfl) pa_nil))) (pe_one (pe_cmpR op_eq (pv 0) (pv 1) (nomark _)))))), ?_⟩
    obtain ⟨rfl, q⟩ := h
    refine ⟨_, rfl, ⟨_, _, _, _, true, rfl, .ty _, .base (.bl _), kit_ty (by decide +kernel), true, rfl, iteT ?_⟩⟩
    exact ⟨_, rfl, _, rfl, rfl, q⟩
theorem dp_natsA {H : Hp} {ks : List Nat} : DpAll K H (ks.map natV) (ks.map natD) := by
  rw [natD_ints, natV_ints]
  exact dpAll_ints
/-- a stake as data -/
def stD (x : List Nat) : PyData := .tuple (x.map natD)
theorem nl_st (x : List Nat) : NL (stD x) := .tup (nls_of fun d hd => by obtain ⟨k, _, rfl⟩ := List.mem_map.mp hd; exact nl_nat k)
theorem st_tup {H : Hp} {v : V} {x : List Nat} (h : Dp K H v (stD x)) : ∃ a, v = .ref a ∧ SqT K H a (x.map natV) := by
  obtain ⟨a, xs, rfl, ha, hd⟩ := dp_tup h
  rw [nats_of hd] at ha
  exact ⟨a, rfl, ha⟩
theorem sum_nats (x : List Nat) : (x.map fun k : Nat => (k : Int)).sum = ((x.sum : Nat) : Int) := by
  induction x with
  | nil => rfl
  | cons a x ih => rw [List.map_cons, List.sum_cons, List.sum_cons, ih]; omega
def spStakes (K : PySem.W.Frag) : Sp := fun vs H Q _ => ∃ (m L : Nat), vs = [.int (m : Int), .int (L : Int)] ∧ m ≤ 4 ∧ L ≤ 4 ∧ ∀ H' v (sts : List (List Nat)), Same H H' → Dp K H' v (.list (sts.map stD)) → (∀ x ∈ sts, x.length = m ∧ x.sum ≤ L) → Q v H'
theorem sc_law_stakes : FnScope ["_law_many", "_law_limit", "_law_found", "_law_letter", "_law_longer", "_law_stake", "_law_coins"] ["_law_many", "_law_limit"] (defScope s__law_stakes) := ⟨rfl, rfl, rfl, by decide +kernel, rfl, by decide +kernel, by decide +kernel⟩
theorem c_law_stakes (F : Fx K mg) : C8.Cal P w K mg base 1 "_law_stakes" (spStakes K) [] := by
  refine (F.cal (d := d__law_stakes) (k := 0) 53 (j := 51) rfl rfl rfl sc_law_stakes (fun _ _ _ _ _ _ us hl => match us, hl with | [_, _], _ => rfl) (fun vs H Q E h => ?_) (fun f cdv A outer s H vs Q E hr h => ?_))
  · obtain ⟨m, L, rfl, _⟩ := h; rfl
  · refine ⟨_, (pss_cons (ps_set (i := 2) sc_law_stakes.nd rfl (Or.inl rfl) (pe_lst (pa_cons (pe_tup pa_nil) pa_nil)))
      (pss_cons (ps_for PassesOwn.never rfl (pi_range1 (by rfl) F.range (pa_cons (pv 0) pa_nil)) (pg_name (i := 3) sc_law_stakes.nd rfl (Or.inl rfl)) (pss_cons (ps_set (i := 4) sc_law_stakes.nd rfl (Or.inl rfl) (pe_lst pa_nil))
      (pss_cons (ps_for PassesOwn.never rfl (piL (K := K) rfl (pv 2)) (pg_name (i := 5) sc_law_stakes.nd rfl (Or.inr rfl)) (pss_one (ps_set (i := 4) sc_law_stakes.nd rfl (Or.inl rfl) (pe_op op_cat (pv 4) (pe_lc (own := [("_law_coins", 6)]) (g := gName 6) rfl sc_law_stakes.nd (pi_range1 (by rfl) F.range (pa_cons (pe_op op_sub (pe_op op_add (pv 1) pe_int) (pe_callB (sumT (K := K) rfl rfl) (by rfl) F.sum (by decide +kernel) (pa_cons (pv 5) pa_nil))) pa_nil)) (blkOk_by (own := [("_law_coins", 6)]) (N := ["_law_many", "_law_limit", "_law_found", "_law_letter", "_law_longer", "_law_stake", "_law_coins"]) (sc := defScope s__law_stakes) (by decide +kernel)) (fun _ _ _ _ _ => (pg_name (i := 6) sc_law_stakes.nd rfl (Or.inl rfl))) (fun _ _ _ _ _ => pts_nil) (fun _ _ _ _ _ => (pe_op (catA (K := K) rfl) (pv 5) (pe_tup (pa_cons (pv 6) pa_nil)))))))))
      (pss_one (ps_set (i := 2) sc_law_stakes.nd rfl (Or.inl rfl) (pv 4))))))
      (pss_one (ps_ret (pv 2))))), ?_⟩
    obtain ⟨m, L, rfl, m4, L4, q⟩ := h
    refine ⟨sz (by simp), fun t ht => ?_⟩
    refine ⟨sz (by simp), fun a ha => ?_⟩
    refine ⟨_, rfl, _, rfl, by omega, by omega, ?_⟩
    have en : ((m : Nat) : Int).toNat = m := by omega
    rw [en]
    have pw : ∀ i, i ≤ 4 → (L + 1) ^ i ≤ 625 := fun i hi => Nat.le_trans (Nat.pow_le_pow_left (show L + 1 ≤ 5 by omega) i) (Nat.le_trans (Nat.pow_le_pow_right (by decide) hi) (by decide))
    refine for_it walk_range (fun i σ H1 => ∃ (fa : Addr) (xs : List V) (sts : List (List Nat)) (p3 p4 p5 : Option V), σ = [some (.int (m : Int)), some (.int (L : Int)), some (.ref fa), p3, p4, p5, none] ∧ Same H H1 ∧ H1 fa = some (.lst xs) ∧ DpAll K H1 xs (sts.map stD) ∧ (∀ x ∈ sts, x.length = i ∧ x.sum ≤ L) ∧ sts.length ≤ (L + 1) ^ i)
      ⟨a, _, [[]], _, _, _, rfl, (same_new ht).trans (same_new ha), upd_same, .cons (Dp.same (same_new ha) (.tup (SqT.of upd_same) .nil)) .nil, fun x hx => by rw [List.mem_singleton.mp hx]; exact ⟨rfl, Nat.zero_le _⟩, by simp⟩ (fun _ _ _ _ _ => True.intro) (fun i x σ H1 H2 hi h yy => ?_) fun σ H1 h => ?_
    · obtain ⟨rfl, rfl⟩ := yy
      obtain ⟨fa, xs, sts, p3, p4, p5, rfl, sm, hfa, dx, ok, len⟩ := h
      have l625 := pw i (by omega)
      have l625' := pw (i + 1) (by omega)
      refine ⟨sz (by simp), fun la hla => ?_⟩
      refine ⟨_, rfl, ?_⟩
      refine forL (K := K) (enc := stD) (Dp.same (same_new hla) (.lst (SqL.of hfa) dx)) (fun j σ H3 => ∃ (la : Addr) (zs : List V) (new : List (List Nat)) (p5 : Option V), σ = [some (.int (m : Int)), some (.int (L : Int)), some (.ref fa), some (.int (0 + (i : Nat))), some (.ref la), p5, none] ∧ Same H2 H3 ∧ H3 la = some (.lst zs) ∧ DpAll K H3 zs (new.map stD) ∧ (∀ x ∈ new, x.length = i + 1 ∧ x.sum ≤ L) ∧ new.length ≤ (L + 1) * j)
        ⟨la, [], [], _, rfl, same_new hla, upd_same, .nil, by simp, by simp⟩ (fun j σ H3 h => ?_) (fun j st x σ H3 hj dst h => ?_) fun σ H3 h => ?_
      · obtain ⟨_, _, _, _, _, s3, _⟩ := h
        exact Dp.same s3 (.lst (SqL.of hfa) dx)
      · obtain ⟨la, zs, new, p5, rfl, s3, hla3, dz, ok3, len3⟩ := h
        obtain ⟨u, rfl, hu⟩ := st_tup dst
        obtain ⟨o1, o2⟩ := ok st (List.mem_of_getElem? hj)
        have jl : j < sts.length := (List.getElem?_eq_some_iff.mp hj).1
        have big : (L + 1) * (j + 1) ≤ (L + 1) ^ (i + 1) := by
          rw [Nat.pow_succ, Nat.mul_comm]
          exact Nat.mul_le_mul (by omega) (Nat.le_refl _)
        have big2 : (L + 1) * (j + 1) = (L + 1) * j + (L + 1) := by rw [Nat.mul_succ]
        refine ⟨_, rfl, _, rfl, _, _, rfl, rfl, _, rfl, u, st.map fun k : Nat => (k : Int), rfl, by rw [← natV_ints]; exact hu, _, _, rfl, rfl, _, rfl, ?_⟩
        rw [sum_nats]
        refine ⟨by omega, by omega, ?_⟩
        have en2 : ((L : Int) + 1 - ((st.sum : Nat) : Int)).toNat = L + 1 - st.sum := by omega
        rw [en2]
        refine lcRg (K := K) (fun k => some (stD (st ++ [k]))) (by omega) (fun a d e => by cases e; exact nl_st _) (fun k H4 hk sm4 => ?_) fun D H4 ws hD sm4 hw dw => ?_
        · refine lct_name rfl fun Qy qy => ?_
          have ez : ((0 : Int) + (k : Nat)) = (k : Int) := by omega
          rw [ez]
          refine ⟨_, rfl, _, rfl, sz (by simp), fun b hb => ?_⟩
          refine ⟨u, b, st.map natV, [natV k], rfl, rfl, same_t (same_new hb) (same_t sm4 hu), SqT.of upd_same, sz (by simp; omega), fun z => ?_, fun _ z => (nomatch z), fun _ _ l hl => ?_⟩
          · have : st = [] := List.map_eq_nil_iff.mp z
            subst this
            exact qy _ _ (same_new hb) (.tup (SqT.of upd_same) (.cons (.int _) .nil))
          · refine qy _ _ ((same_new hb).trans (same_new hl)) ?_
            unfold stD
            refine .tup (xs := (st ++ [k]).map natV) (SqT.of (by rw [upd_same, List.map_append]; rfl)) ?_
            exact dp_natsA
        · rw [fmS] at dw
          have hla4 := sm4 _ _ hla3
          have wl : ws.length = L + 1 - st.sum := by have := dpAll_len dw; rw [List.length_map, List.length_range] at this; exact this
          have zl := enc_len dz
          refine ⟨la, D, zs, ws, rfl, rfl, hla4, hw, sz (by omega), fun l hl => ?_⟩
          refine ⟨l, zs ++ ws, new ++ (List.range (L + 1 - st.sum)).map (fun k => st ++ [k]), _, rfl, s3.trans (sm4.trans (same_new hl)), upd_same, ?_, fun x hx => ?_, ?_⟩
          · rw [List.map_append, List.map_map]
            exact dpAll_append (DpAll.same (sm4.trans (same_new hl)) dz) (DpAll.same (same_new hl) dw)
          · rcases List.mem_append.mp hx with z | z
            · exact ok3 x z
            · obtain ⟨k, hk, rfl⟩ := List.mem_map.mp z
              have := List.mem_range.mp hk
              rw [List.length_append, List.sum_append]
              simp
              omega
          · rw [List.length_append, List.length_map, List.length_range]
            omega
      · obtain ⟨la, zs, new, p5, rfl, s3, hla3, dz, ok3, len3⟩ := h
        refine ⟨_, rfl, la, zs, new, _, _, _, rfl, sm.trans s3, hla3, dz, ok3, ?_⟩
        rw [Nat.pow_succ, Nat.mul_comm]
        exact Nat.le_trans len3 (Nat.mul_le_mul_left _ len)
    · obtain ⟨fa, xs, sts, p3, p4, p5, rfl, sm, hfa, dx, ok, len⟩ := h
      exact ⟨_, rfl, q H1 _ sts sm (.lst (SqL.of hfa) dx) ok⟩
def Covers (nums : Nums) (z : Int) (l : List Arw) (x : List Nat) : Prop := ∃ e ∈ l.zip x, ∃ g : Int, nums[e.1.2.2]? = some (some g) ∧ (e.1.2.1 : Int) * (e.2 : Int) - (x.sum : Int) + g ≤ z
def spHolding (K : PySem.W.Frag) : Sp := fun vs H Q _ => ∃ (na : Addr) (nums : Nums) (p : Nat) (z : Int) (sa : V) (l : List Arw) (st : V) (x : List Nat), vs = [.ref na, .int (p : Int), sa, st] ∧ H na = some (NumsT nums) ∧ nums[p]? = some (some z) ∧ Dp K H sa (.list (l.map stepD)) ∧ Dp K H st (stD x) ∧ x.length = l.length ∧ l.length ≤ 4 ∧ (∀ s ∈ l, s.2.2 < nums.length ∧ s.2.1 ≤ 9) ∧
  ∀ H' a xs, Same H H' → H' a = some (.lst xs) → (Covers nums z l x → xs ≠ []) → Q (.ref a) H'
theorem sc_law_holding : FnScope ["_law_thing", "_law_place", "_law_steps_here", "_law_stake", "_law_found", "_law_letter", "_law_pay", "_law_goal", "_law_laid"] ["_law_thing", "_law_place", "_law_steps_here", "_law_stake"] (defScope s__law_holding) := ⟨rfl, rfl, rfl, by decide +kernel, rfl, by decide +kernel, by decide +kernel⟩
theorem c_law_holding (F : Fx K mg) : C8.Cal P w K mg base 1 "_law_holding" (spHolding K) [] := by
  refine (F.cal (d := d__law_holding) (k := 0) 55 (j := 53) rfl rfl rfl sc_law_holding (fun _ _ _ _ _ _ us hl => match us, hl with | [_, _, _, _], _ => rfl) (fun vs H Q E h => ?_) (fun f cdv A outer s H vs Q E hr h => ?_))
  · obtain ⟨na, nums, p, z, sa, l, st, x, rfl, _⟩ := h; rfl
  · refine ⟨_, (pss_cons (ps_set (i := 4) sc_law_holding.nd rfl (Or.inl rfl) (pe_lst pa_nil))
      (pss_cons (ps_for PassesOwn.never rfl (pi_zipLT (by rfl) F.zip (pa_cons (pv 2) (pa_cons (pv 3) pa_nil))) (tupK (K := K) (n := 2) rfl rfl (pgs_cons (tupK (K := K) (n := 3) rfl rfl (pgs_cons (pg_name (i := 5) sc_law_holding.nd rfl (Or.inl rfl)) (pgs_cons (pg_name (i := 6) sc_law_holding.nd rfl (Or.inl rfl)) (pgs_cons (pg_name (i := 7) sc_law_holding.nd rfl (Or.inl rfl)) pgs_nil)))) (pgs_cons (pg_name (i := 8) sc_law_holding.nd rfl (Or.inl rfl)) pgs_nil))) (pss_one (ps_if (PW.pt (pw_and (pt_cmpR op_notN (pe_ix (ixT (K := K) rfl) (pv 0) (pv 7) (fun _ _ => rfl)) pe_non (nomark _)) (pw_and1 (pt_cmpR op_le (pe_op op_add (pe_op op_sub (pe_op op_mul (pv 6) (pv 8)) (pe_callB (sumT (K := K) rfl rfl) (by rfl) F.sum (by decide +kernel) (pa_cons (pv 3) pa_nil))) (pe_ix (ixT (K := K) rfl) (pv 0) (pv 7) (fun _ _ => rfl))) (pe_ix (ixT (K := K) rfl) (pv 0) (pv 1) (fun _ _ => rfl)) (nomark _))))) (pss_one (ps_expr (pe_bm PySem.F.plainAttrs_list PySem.F.slot_list_append PySem.F.type_list_append mt_append (pv 4) (pa_cons (pv 5) pa_nil)))) pss_nil)))
      (pss_one (ps_ret (pv 4))))), ?_⟩
    obtain ⟨na, nums, p, z, sa, l, st, x, rfl, hna, hz, hsa, hst, xl, l4, sok, q⟩ := h
    refine ⟨sz (by simp), fun fa hfa => ?_⟩
    obtain ⟨la, ys, rfl, hla, dy⟩ := dp_list hsa
    obtain ⟨ta, rfl, hta⟩ := st_tup hst
    have yl := enc_len dy
    have s1 : Same H (upd H fa (.lst [])) := same_new hfa
    refine ⟨_, rfl, _, rfl, la, ta, ys, x.map natV, rfl, same_l s1 hla, same_t s1 hta, ?_⟩
    refine for_it (walk_zipLT (l := ys) (m := x.map natV) (by rw [List.length_map]; omega)) (fun i σ H1 => ∃ (zs : List V) (p5 p6 p7 p8 : Option V), σ = [some (.ref na), some (.int (p : Int)), some (.ref la), some (.ref ta), some (.ref fa), p5, p6, p7, p8] ∧ Same H H1 ∧ H1 fa = some (.lst zs) ∧ zs.length ≤ i ∧
        ((∃ e ∈ (l.zip x).take i, ∃ g : Int, nums[e.1.2.2]? = some (some g) ∧ (e.1.2.1 : Int) * (e.2 : Int) - (x.sum : Int) + g ≤ z) → zs ≠ []))
      ⟨[], _, _, _, _, rfl, s1, upd_same, Nat.le_refl _, fun ⟨e, he, _⟩ => by simp at he⟩ (fun i σ H1 _ h => ?_) (fun i v σ H1 H2 hi h yy => ?_) fun σ H1 h => ?_
    · obtain ⟨_, _, _, _, _, _, sm, _⟩ := h
      exact ⟨same_l sm hla, same_t sm hta⟩
    · obtain ⟨t, x1, x2, rfl, ht, rfl, h4, h5⟩ := yy
      obtain ⟨zs, p5, p6, p7, p8, rfl, sm, hf1, zl, cov⟩ := h
      have h4 : ys[i]? = some x1 := h4
      have h5 : (x.map natV)[i]? = some x2 := h5
      obtain ⟨s, hs, ds⟩ := enc_get dy h4
      obtain ⟨k, hk, rfl⟩ := natV_get h5
      obtain ⟨u, rfl, hu⟩ := step_tup ds
      have sm2 : Same H (upd H1 t (.tup [.ref u, .int (k : Int)])) := sm.trans (same_new ht)
      have hf2 : upd H1 t (.tup [.ref u, .int (k : Int)]) fa = some (.lst zs) := same_new ht _ _ hf1
      obtain ⟨so1, so2⟩ := sok s (List.mem_of_getElem? hs)
      have hg := List.getElem?_eq_getElem so1
      have zi : (l.zip x)[i]? = some (s, k) := List.getElem?_zip_eq_some.mpr ⟨hs, hk⟩
      have tk : (l.zip x).take (i + 1) = (l.zip x).take i ++ [(s, k)] := by rw [List.take_succ, zi]; rfl
      refine ⟨t, _, rfl, SqT.of upd_same, rfl, _, _, rfl, ?_⟩
      refine ⟨u, _, rfl, same_t sm2 hu, rfl, _, _, rfl, _, _, rfl, _, _, rfl, rfl, _, _, rfl, rfl, ?_⟩
      have step : ∀ (zs' : List V), (∀ e, e ∈ (l.zip x).take (i + 1) → (∃ g : Int, nums[e.1.2.2]? = some (some g) ∧ (e.1.2.1 : Int) * (e.2 : Int) - (x.sum : Int) + g ≤ z) → (e ∈ (l.zip x).take i ∧ True) ∨ e = (s, k)) := fun _ e he _ => by
        rw [tk] at he
        rcases List.mem_append.mp he with y | y
        · exact .inl ⟨y, True.intro⟩
        · exact .inr (List.mem_singleton.mp y)
      have skip : ∀ H3, Same (upd H1 t (.tup [.ref u, .int (k : Int)])) H3 → (¬ ∃ g : Int, nums[s.2.2]? = some (some g) ∧ (s.2.1 : Int) * (k : Int) - (x.sum : Int) + g ≤ z) → ∃ (zs : List V) (p5 p6 p7 p8 : Option V), [some (.ref na), some (.int (p : Int)), some (.ref la), some (.ref ta), some (.ref fa), some (.str s.1), some (.int (s.2.1 : Int)), some (.int (s.2.2 : Int)), some (.int (k : Int))] = [some (.ref na), some (.int (p : Int)), some (.ref la), some (.ref ta), some (.ref fa), p5, p6, p7, p8] ∧ Same H H3 ∧ H3 fa = some (.lst zs) ∧ zs.length ≤ i + 1 ∧
          ((∃ e ∈ (l.zip x).take (i + 1), ∃ g : Int, nums[e.1.2.2]? = some (some g) ∧ (e.1.2.1 : Int) * (e.2 : Int) - (x.sum : Int) + g ≤ z) → zs ≠ []) := fun H3 s3 no => by
        refine ⟨zs, _, _, _, _, rfl, sm2.trans s3, s3 _ _ hf2, by omega, fun ⟨e, he, ge⟩ => ?_⟩
        rcases step zs e he ge with ⟨y, _⟩ | rfl
        · exact cov ⟨e, y, ge⟩
        · exact absurd ge no
      refine ⟨_, rfl, _, rfl, na, _, _, _, rfl, rfl, SqT.of (sm2 _ _ hna), atI_nat (vD_get hg), rfl, _, rfl, ?_⟩
      cases e : nums[s.2.2] with
      | none => exact iteF (skip _ (Same.refl _) fun ⟨g, h1, _⟩ => by rw [hg, e] at h1; cases h1)
      | some g =>
        rw [e] at hg
        refine iteT ?_
        have hta2 : SqT K (upd H1 t (.tup [.ref u, .int (k : Int)])) ta ((x.map fun k : Nat => (k : Int)).map V.int) := by rw [← natV_ints]; exact same_t sm2 hta
        refine ⟨_, rfl, _, rfl, _, _, rfl, rfl, .inl ⟨by omega, by omega⟩, _, rfl, ta, _, rfl, hta2, _, _, rfl, rfl, _, rfl, _, rfl, na, _, _, _, rfl, rfl, SqT.of (sm2 _ _ hna), atI_nat (vD_get hg), _, _, rfl, rfl, _, rfl, _, rfl, na, _, _, _, rfl, rfl, SqT.of (sm2 _ _ hna), atI_nat (vD_get hz), _, _, rfl, rfl, _, rfl, ?_⟩
        rw [sum_nats]
        refine ite2 (fun c => ?_) fun c => ?_
        · refine ⟨_, rfl, .inl ⟨rfl, _, SqL.of hf2⟩, _, rfl, fa, _, _, rfl, rfl, hf2, small1000 (by omega), ?_⟩
          exact ⟨zs ++ [.str s.1], _, _, _, _, rfl, same_mut sm2 hfa, upd_same, by rw [List.length_append]; exact Nat.succ_le_succ zl, fun _ => by simp⟩
        · refine skip _ (Same.refl _) fun ⟨g', h1, h2⟩ => c (decide_eq_true ?_)
          rw [hg] at h1
          cases h1
          exact h2
    · obtain ⟨zs, p5, p6, p7, p8, rfl, sm, hf1, zl, cov⟩ := h
      have : (l.zip x).take ys.length = l.zip x := List.take_of_length_le (by rw [List.length_zip]; omega)
      rw [this] at cov
      exact ⟨_, rfl, q H1 fa zs sm hf1 cov⟩
end
end K68
set_option maxRecDepth 100000
set_option maxHeartbeats 400000
namespace K68
open PySem PySem.Spec PyProof.Rows L2
section
variable {P : Program} {w : World} {K : PySem.W.Frag} {mg : Str → Option Value} {base : Heap}
def spLawIs (K : PySem.W.Frag) : Sp := fun vs H Q _ => ∃ (v : V) (n : Nat) (ars : List A4) (L : Nat) (na : Addr) (nums : Nums), vs = [v, .int (L : Int), .ref na] ∧ Dp K H v (toldD n ars) ∧ ToldOk n ars ∧ L ≤ 4 ∧ H na = some (NumsT nums) ∧ nums.length = n ∧ (∃ p, Has nums p) ∧ Slope (trOf (trk n ars)) L n (Has nums) (num nums) ∧ ∀ H', Same H H' → Q (.bl true) H'
theorem covers_of {n : Nat} {ars : List A4} {L : Nat} {nums : Nums} {p : Nat} {z : Int} {x : List Nat} (hp : p < n) (hz : nums[p]? = some (some z)) (S : Slope (trOf (trk n ars)) L n (Has nums) (num nums)) (xl : x.length = (stepsAt ars p).length) (xs : x.sum ≤ L) : Covers nums z (stepsAt ars p) x := by
  have e1 : trOf (trk n ars) p = (stepsAt ars p).map (·.2) := trOf_at (trk_at hp)
  obtain ⟨e, he, ⟨g, hg⟩, hc⟩ := S.held p ⟨z, hz⟩ x (by rw [e1, List.length_map]; exact xl) (by omega)
  rw [e1] at he
  obtain ⟨d, hd, rfl⟩ := (zip_map_l _).mp he
  refine ⟨d, hd, g, hg, ?_⟩
  rw [num_of hg, num_of hz] at hc
  unfold chg at hc
  exact hc
theorem sc_law_is_slope : FnScope ["_law_told_here", "_law_limit", "_law_thing", "_law_some", "_law_place", "_law_steps_here", "_law_stake", "_law_number"] ["_law_told_here", "_law_limit", "_law_thing"] (defScope s__law_is_slope) := ⟨rfl, rfl, rfl, by decide +kernel, rfl, by decide +kernel, by decide +kernel⟩
theorem c_law_is_slope (F : Fx K mg) : C8.Cal P w K mg base 2 "_law_is_slope" (spLawIs K) [] := by
  refine (F.cal (d := d__law_is_slope) (k := 1) 54 (j := 52) rfl rfl rfl sc_law_is_slope (fun _ _ _ _ _ _ us hl => match us, hl with | [_, _, _], _ => rfl) (fun vs H Q E h => ?_) (fun f cdv A outer s H vs Q E hr h => ?_))
  · obtain ⟨v, n, ars, L, na, nums, rfl, _⟩ := h; rfl
  · refine ⟨_, (pss_cons (ps_if (PW.pt (pw_or (pt_not (pt_val (pe_callB (isi (K := K) rfl) (by rfl) F.isinstance (by decide +kernel) (pa_cons (pv 2) (pa_cons (pe_bltn (v := .ty "tuple") (u := .type "tuple") (by rfl) F.tuple (by decide +kernel) rfl) pa_nil))))) (pw_or1 (pt_cmpR op_ne (pe_callB (lenS (K := K) rfl) (by rfl) F.len (by decide +kernel) (pa_cons (pv 2) pa_nil)) (pe_ix (ixT (K := K) rfl) (pv 0) pe_int (fun _ _ => rfl)) (nomark _))))) (pss_one (ps_ret pe_bl)) pss_nil)
      (pss_cons (ps_if (pt_not (pt_val (pe_callB (allL (K := K) rfl rfl) (by rfl) F.all (by decide +kernel) (pa_cons (pe_lc (own := [("_law_number", 7)]) (g := gName 7) rfl sc_law_is_slope.nd (piT (K := K) rfl (pv 2)) (blkOk_by (own := [("_law_number", 7)]) (N := ["_law_told_here", "_law_limit", "_law_thing", "_law_some", "_law_place", "_law_steps_here", "_law_stake", "_law_number"]) (sc := defScope s__law_is_slope) (by decide +kernel)) (fun _ _ _ _ _ => (pg_name (i := 7) sc_law_is_slope.nd rfl (Or.inl rfl))) (fun _ _ _ _ _ => pts_nil) (fun _ _ _ _ _ => (pe_or (pe_cmpR op_isN (pv 7) pe_non (nomark _)) (pe_one (pe_and (pe_callB (isi (K := K) rfl) (by rfl) F.isinstance (by decide +kernel) (pa_cons (pv 7) (pa_cons (pe_bltn (v := .ty "int") (u := .type "int") (by rfl) F.int (by decide +kernel) rfl) pa_nil))) (pe_one (pe_not (pe_callB (isi (K := K) rfl) (by rfl) F.isinstance (by decide +kernel) (pa_cons (pv 7) (pa_cons (pe_bltn (v := .ty "bool") (u := .type "bool") (by rfl) F.bool (by decide +kernel) rfl) pa_nil)))))))))) pa_nil)))) (pss_one (ps_ret pe_bl)) pss_nil)
      (pss_cons (ps_setLc (i := 3) (own := [("_law_place", 4)]) (g := gName 4) rfl sc_law_is_slope.nd rfl rfl (sw_true rfl rfl rfl (by decide +kernel)) (pi_range1 (by rfl) F.range (pa_cons (pe_ix (ixT (K := K) rfl) (pv 0) pe_int (fun _ _ => rfl)) pa_nil)) (blkOk_by (own := [("_law_place", 4)]) (N := ["_law_told_here", "_law_limit", "_law_thing", "_law_some", "_law_place", "_law_steps_here", "_law_stake", "_law_number"]) (sc := defScope s__law_is_slope) (by decide +kernel)) (fun _ _ _ _ _ => (pg_name (i := 4) sc_law_is_slope.nd rfl (Or.inl rfl))) (fun _ _ _ _ _ => (pts_one (pt_cmpR op_notN (pe_ix (ixT (K := K) rfl) (pv 2) (pv 4) (fun _ _ => rfl)) pe_non (nomark _)))) (fun _ _ _ _ _ => (pv 4)))
      (pss_cons (ps_for PassesOwn.never rfl (piL (K := K) rfl (pv 3)) (pg_name (i := 4) sc_law_is_slope.nd rfl (Or.inl rfl)) (pss_cons (ps_set (i := 5) sc_law_is_slope.nd rfl (Or.inl rfl) (C8.pe_c (c_law_steps F) hr (by decide) (by rfl) (pa_cons (pv 0) (pa_cons (pv 4) pa_nil))))
      (pss_one (ps_for PassesOwn.never rfl (piL (K := K) rfl (C8.pe_c (c_law_stakes F) hr (by decide) (by rfl) (pa_cons (pe_callB (lenS (K := K) rfl) (by rfl) F.len (by decide +kernel) (pa_cons (pv 5) pa_nil)) (pa_cons (pv 1) pa_nil)))) (pg_name (i := 6) sc_law_is_slope.nd rfl (Or.inl rfl)) (pss_one (ps_if (pt_cmpR op_eq (pe_callB (lenS (K := K) rfl) (by rfl) F.len (by decide +kernel) (pa_cons (C8.pe_c (c_law_holding F) hr (by decide) (by rfl) (pa_cons (pv 2) (pa_cons (pv 4) (pa_cons (pv 5) (pa_cons (pv 6) pa_nil))))) pa_nil)) pe_int (nomark _)) (pss_one (ps_ret pe_bl)) pss_nil))))))
      (pss_one (ps_ret (pe_cmpR op_gt (pe_callB (lenS (K := K) rfl) (by rfl) F.len (by decide +kernel) (pa_cons (pv 3) pa_nil)) pe_int (nomark _)))))))), ?_⟩
    obtain ⟨v, n, ars, L, na, nums, rfl, hv, ok, hL, hna, nl, ⟨p0, z0, hz0⟩, S, q⟩ := h
    have n1 := ok.pos
    have n12 := ok.few
    have l48 := ok.len
    obtain ⟨t, y, rfl, ht, hy⟩ := told_tup hv
    refine ⟨_, rfl, ⟨_, _, _, _, true, rfl, .ty _, .base (.tup hna), kit_ty (by decide +kernel), true, rfl, iteF ?_⟩⟩
    refine ⟨_, rfl, na, _, rfl, .inr (SqT.of hna), _, rfl, t, _, _, _, rfl, rfl, ht, rfl, rfl, _, rfl, ?_⟩
    have e1 : decide (V.int ((nums.map vD).length : Nat) = V.int (n : Nat)) = true := decide_eq_true (by rw [List.length_map, nl])
    rw [e1]
    refine iteF ?_
    refine ⟨_, rfl, ?_⟩
    refine lcT (K := K) (enc := nD) (dp_nums hna) (fun _ => some (.bool true)) (by omega) (fun a d e => by cases e; exact .bl _) (fun o x H2 ho sm dx => ?_) fun D H2 xs hD sm2 hx dx => ?_
    · obtain rfl := nD_of dx
      refine lct_name rfl fun Qy qy => ?_
      refine ⟨_, rfl, rfl, _, rfl, ?_⟩
      cases o with
      | none => exact iteT (qy _ _ (Same.refl _) (.bl _))
      | some z =>
        refine iteF ?_
        refine ⟨_, rfl, ⟨_, _, _, _, true, rfl, .ty _, .base (.int z), kit_ty (by decide +kernel), true, rfl, iteT ?_⟩⟩
        exact ⟨_, rfl, ⟨_, _, _, _, false, rfl, .ty _, .base (.int z), kit_ty (by decide +kernel), false, rfl, qy _ _ (Same.refl _) (.bl _)⟩⟩
    rw [fmB] at dx
    obtain rfl := dpAll_bools dx
    refine ⟨D, _, rfl, SqL.of hx, _, rfl, ?_⟩
    rw [all_yes]
    refine iteF ?_
    have ht2 := same_t sm2 ht
    refine ⟨_, rfl, t, _, _, _, rfl, rfl, ht2, rfl, _, rfl, by omega, by omega, ?_⟩
    have en : ((n : Nat) : Int).toNat = n := by omega
    rw [en]
    refine lcRg (K := K) (fun p => if (!(nums[p]?.join).isNone) = true then some (natD p) else none) (by omega) (nl_opt fun r => nl_nat _) (fun i H3 hi sm3 => ?_) fun D3 H3 xs hD3 sm3 hx3 dx3 => ?_
    · have ez : ((0 : Int) + (i : Nat)) = (i : Int) := by omega
      rw [ez]
      intro Qy Qn qy qn
      have hg := List.getElem?_eq_getElem (show i < nums.length by omega)
      refine ⟨rfl, _, rfl, _, rfl, na, _, _, _, rfl, rfl, SqT.of ((sm2.trans sm3) _ _ hna), atI_nat (vD_get hg), rfl, _, rfl, ?_⟩
      rw [vD_non]
      rw [hg] at qy qn
      refine ite2 (fun c => ?_) fun c => ?_
      · exact ⟨_, rfl, qy _ _ _ (if_pos c) (Same.refl _) (.int _)⟩
      · exact qn (if_neg c) _ (Same.refl _)
    rw [fm_filter] at dx3
    obtain rfl := nats_of dx3
    generalize hso : (List.range n).filter (fun p => !(nums[p]?.join).isNone) = so at hx3
    have som : ∀ p ∈ so, p < n ∧ ∃ z, nums[p]? = some (some z) := fun p hp => by
      rw [← hso, List.mem_filter, List.mem_range] at hp
      refine ⟨hp.1, ?_⟩
      cases e : nums[p]?.join with
      | none => rw [e] at hp; simp at hp
      | some z => exact ⟨z, join_has.mp e⟩
    have has0 : p0 ∈ so := by
      rw [← hso, List.mem_filter, List.mem_range]
      have lt : p0 < nums.length := (List.getElem?_eq_some_iff.mp hz0).1
      exact ⟨by omega, by rw [hz0]; rfl⟩
    have sol : so.length ≤ 12 := by
      have := List.length_filter_le (fun p => !(nums[p]?.join).isNone) (List.range n)
      rw [hso, List.length_range] at this
      omega
    have sm23 := sm2.trans sm3
    refine ⟨_, rfl, ?_⟩
    refine forL (K := K) (enc := natD) (dp_nats (SqL.of hx3)) (fun i σ H4 => ∃ (p4 p5 p6 : Option V), σ = [some (.ref t), some (.int (L : Int)), some (.ref na), some (.ref D3), p4, p5, p6, none] ∧ Same H3 H4) ⟨_, _, _, rfl, Same.refl _⟩ (fun i σ H4 h => ?_) (fun i p x σ H4 hi dx h => ?_) fun σ H4 h => ?_
    · obtain ⟨_, _, _, _, s4⟩ := h
      exact dp_nats (SqL.of (s4 _ _ hx3))
    · obtain rfl := dp_int dx
      obtain ⟨p4, p5, p6, rfl, s4⟩ := h
      obtain ⟨pn, z, hz⟩ := som p (List.mem_of_getElem? hi)
      have s04 := sm23.trans s4
      refine ⟨_, rfl, _, rfl, _, n, ars, p, rfl, Dp.same s04 hv, l48, fun H5 sa s5 dsa hsa => ?_⟩
      have s05 := s04.trans s5
      have sl4 : (stepsAt ars p).length ≤ 4 := by unfold stepsAt; rw [List.length_map]; exact ok.four p pn
      obtain ⟨ss, hss, ssl⟩ := hsa
      refine ⟨_, rfl, sa, _, rfl, .inl (SqL.of hss), ?_⟩
      refine ⟨_, rfl, ss.length, L, rfl, by omega, hL, fun H6 v6 sts s6 d6 st6 => ?_⟩
      have s06 := s05.trans s6
      refine forL (K := K) (enc := stD) d6 (fun j σ H7 => ∃ (p6 : Option V), σ = [some (.ref t), some (.int (L : Int)), some (.ref na), some (.ref D3), some (.int (p : Int)), some (.ref sa), p6, none] ∧ Same H6 H7) ⟨_, rfl, Same.refl _⟩ (fun j σ H7 h => ?_) (fun j x v7 σ H7 hj dj h => ?_) fun σ H7 h => ?_
      · obtain ⟨_, _, s7⟩ := h
        exact Dp.same s7 d6
      · obtain ⟨p6', rfl, s7⟩ := h
        obtain ⟨x1, x2⟩ := st6 x (List.mem_of_getElem? hj)
        have s07 := s06.trans s7
        refine ⟨_, rfl, _, rfl, _, rfl, _, rfl, na, nums, p, z, .ref sa, stepsAt ars p, v7, x, rfl, s07 _ _ hna, hz, Dp.same (s6.trans s7) dsa, dj, by omega, sl4, fun s hs => ?_, fun H8 ha xs s8 hxs cov => ?_⟩
        · obtain ⟨a, ha, rfl⟩ := List.mem_map.mp hs
          obtain ⟨h1, h2, h3, _⟩ := ok.arr a (List.mem_filter.mp ha).1
          exact ⟨by rw [nl]; exact h3, h2⟩
        · have ne := cov (covers_of pn hz S (by omega) x2)
          refine ⟨ha, _, rfl, .inl (SqL.of hxs), rfl, _, rfl, ite2 (fun c => ?_) fun c => ?_⟩
          · have := V.int.inj (of_decide_eq_true c)
            exact absurd (List.eq_nil_of_length_eq_zero (by omega)) ne
          · exact ⟨_, rfl, s7.trans s8⟩
      · obtain ⟨p6', rfl, s7⟩ := h
        exact ⟨_, _, _, rfl, s4.trans (s5.trans (s6.trans s7))⟩
    · obtain ⟨p4, p5, p6, rfl, s4⟩ := h
      refine ⟨_, rfl, D3, _, rfl, .inl (SqL.of (s4 _ _ hx3)), _, _, rfl, rfl, ?_⟩
      have pos : 0 < so.length := List.length_pos_iff.mpr (List.ne_nil_of_mem has0)
      have e2 : decide ((0 : Int) < ((so.map natV).length : Nat)) = true := decide_eq_true (by rw [List.length_map]; omega)
      show Q (.bl (decide ((0 : Int) < ((so.map natV).length : Nat)))) H4
      rw [e2]
      exact q H4 (sm23.trans s4)
end
end K68
set_option maxRecDepth 100000
set_option maxHeartbeats 400000
namespace K68
open PySem PySem.Spec PyProof.Rows L2
section
variable {P : Program} {w : World} {K : PySem.W.Frag} {mg : Str → Option Value} {base : Heap}
def spLaw (K : PySem.W.Frag) : Sp := fun vs H Q _ => ∃ (a : Addr) (ns : List Int), vs = [.ref a] ∧ SqL K H a (ns.map V.int) ∧ ns.length ≤ 63 ∧ ∀ H', Q (.bl true) H'
theorem law_few {p c : Addr} {σ : L2.St} {H : Hp} {Q' : VK} {i : Int} (h1 : σ[1]? = some (some (.ref p))) (h2 : σ[2]? = some (some (.int i))) (hp : Pool H p c) (k : ∀ few : Nat, 1 ≤ few → few ≤ 12 → Q' (.int (few : Int)) H) :
    tIf (tAnd (tTest (tOp rEq (tVar 2) (tC (.int 0)))) (tTest (tOp rEq (tOp (rI (fun x j => j ≠ 0) fun i j => V.int (i.fmod j)) (tCB (fun xs H Q => (∃ i, xs = [V.int i] ∧ Q (V.int i) H) ∨ ∃ k, xs = [V.bl k] ∧ Q (V.int (if k = true then 1 else 0)) H) (tCons (tOp (rIxL K) (tVar 1) (tC (.int 0))) tNil)) (tC (.int 8))) (tC (.int 0))))) (tC (.int 12)) (tC (.int 3)) σ H Q' := by
  obtain ⟨_, s, kk, cells, hpp, _⟩ := hp
  have a := k 12 (by omega) (by omega)
  have b := k 3 (by omega) (by omega)
  refine ⟨_, h2, rfl, _, rfl, ite2 (fun d => ?_) fun d => ?_⟩
  · refine ⟨_, h1, p, _, _, .int s, rfl, rfl, SqL.of hpp, rfl, .inl ⟨_, rfl, _, _, rfl, rfl, show (8 : Int) ≠ 0 by decide, rfl, _, rfl, ite2 (fun _ => a) fun _ => b⟩⟩
  · exact b
theorem law_lim {t : Addr} {y : V} {n : Nat} {σ : L2.St} {H : Hp} {Q' : VK} (h3 : σ[3]? = some (some (.ref t))) (ht : SqT K H t [.int (n : Int), y]) (k : ∀ m : Nat, 1 ≤ m → m ≤ 5 → Q' (.int (m : Int)) H) :
    tIf (tTest (tOp (rI0 fun i j => V.bl (decide (i < j))) (tOp (rIxT K) (tVar 3) (tC (.int 0))) (tC (.int 4)))) (tC (.int 5)) (tC (.int 3)) σ H Q' := by
  have a := k 5 (by omega) (by omega)
  have b := k 3 (by omega) (by omega)
  exact ⟨_, h3, t, _, _, _, rfl, rfl, ht, rfl, _, _, rfl, rfl, _, rfl, ite2 (fun _ => a) fun _ => b⟩
theorem sc_law : FnScope ["_law_script", "_law_pool_here", "_law_turn", "_law_told_here", "_law_limit", "_law_track_here", "_law_least", "_law_place", "_law_found", "_law_less"] ["_law_script"] (defScope s_law) := ⟨rfl, rfl, rfl, by decide +kernel, rfl, by decide +kernel, by decide +kernel⟩
theorem law_body (F : Fx K mg) (f : Addr) (cdv : Value) (A : Around) (outer : List Env) (s : Shared) (H : Hp) (vs : List V) (Q : VK) (E : XK) (hr : Room 12 (A.deeper (envOfC "law" (defScope s_law) s.heap.objs.size f cdv))) (h : spLaw K vs H Q E) :
    ∃ t, PSs (cxOf CX0 P w K mg base ["_law_script", "_law_pool_here", "_law_turn", "_law_told_here", "_law_limit", "_law_track_here", "_law_least", "_law_place", "_law_found", "_law_less"] "law" (defScope s_law) f cdv A outer s H E).nox (defBody s_law) t ∧ t { nx := fun _ H' => Q .non H', rt := Q } (start ["_law_script", "_law_pool_here", "_law_turn", "_law_told_here", "_law_limit", "_law_track_here", "_law_least", "_law_place", "_law_found", "_law_less"] vs) H := by
  refine ⟨_, (pss_cons (ps_set (i := 1) sc_law.nd rfl (Or.inl rfl) (C8.pe_c (c_law_pool F) hr (by decide) (by rfl) (pa_cons (pv 0) pa_nil)))
      (pss_cons (ps_for PassesOwn.never rfl (pi_range1 (by rfl) F.range (pa_cons pe_int pa_nil)) (pg_name (i := 2) sc_law.nd rfl (Or.inl rfl)) (pss_cons (ps_set (i := 3) sc_law.nd rfl (Or.inl rfl) (C8.pe_c (c_law_told F) hr (by decide) (by rfl) (pa_cons (pv 1) (pa_cons (pe_ifExp (PW.pt (pw_and (pt_cmpR op_eq (pv 2) pe_int (nomark _)) (pw_and1 (pt_cmpR op_eq (pe_op op_modN (pe_callTy call_int1 (by rfl) F.int (by decide +kernel) (pa_cons (pe_ix (ixL (K := K) rfl) (pv 1) pe_int (fun _ _ => rfl)) pa_nil)) pe_int) pe_int (nomark _))))) pe_int pe_int) pa_nil))))
      (pss_cons (ps_set (i := 4) sc_law.nd rfl (Or.inl rfl) (C8.pe_c (c_law_draw F) hr (by decide) (by rfl) (pa_cons (pv 1) (pa_cons (pe_ifExp (pt_cmpR op_lt (pe_ix (ixT (K := K) rfl) (pv 3) pe_int (fun _ _ => rfl)) pe_int (nomark _)) pe_int pe_int) pa_nil))))
      (pss_cons (ps_set (i := 5) sc_law.nd rfl (Or.inl rfl) (C8.pe_c (c_law_track F) hr (by decide) (by rfl) (pa_cons (pv 3) pa_nil)))
      (pss_cons (ps_set (i := 6) sc_law.nd rfl (Or.inl rfl) (C8.pe_c (c_least_coins_within F) hr (by decide) (by rfl) (pa_cons (pv 5) (pa_cons (pv 4) pa_nil))))
      (pss_one (ps_for PassesOwn.never rfl (pi_range1 (by rfl) F.range (pa_cons (pe_ix (ixT (K := K) rfl) (pv 3) pe_int (fun _ _ => rfl)) pa_nil)) (pg_name (i := 7) sc_law.nd rfl (Or.inl rfl)) (pss_cons (ps_set (i := 8) sc_law.nd rfl (Or.inl rfl) (C8.pe_c (c_slope F) hr (by decide) (by rfl) (pa_cons (pv 5) (pa_cons (pv 4) (pa_cons (pv 7) pa_nil)))))
      (pss_cons (ps_if (PW.pt (pw_or (pt_cmpR op_ne (pe_cmpR op_isN (pv 8) pe_non (nomark _)) (pe_cmpR op_notN (pe_ix (ixT (K := K) rfl) (pv 6) (pv 7) (fun _ _ => rfl)) pe_non (nomark _)) (nomark _)) (pw_or1 (pt_cmpR (neD (K := K) rfl hr.units) (C8.pe_c (c_slope F) hr (by decide) (by rfl) (pa_cons (pv 5) (pa_cons (pv 4) (pa_cons (pv 7) pa_nil)))) (pv 8) (nomark _))))) (pss_one (ps_ret pe_bl)) pss_nil)
      (pss_one (ps_if (pt_cmpR op_notN (pv 8) pe_non (nomark _)) (pss_cons (ps_if (PW.pt (pw_or (pt_not (pt_val (C8.pe_c (c_law_is_slope F) hr (by decide) (by rfl) (pa_cons (pv 3) (pa_cons (pv 4) (pa_cons (pv 8) pa_nil)))))) (pw_or1 (pt_cmpR op_isN (pe_ix (ixT (K := K) rfl) (pv 8) (pv 7) (fun _ _ => rfl)) pe_non (nomark _))))) (pss_one (ps_ret pe_bl)) pss_nil)
      (pss_one (ps_for PassesOwn.never rfl (pi_range1 (by rfl) F.range (pa_cons (pe_op op_add (pv 4) pe_int) pa_nil)) (pg_name (i := 9) sc_law.nd rfl (Or.inl rfl)) (pss_one (ps_if (pt_not (pt_val (C8.pe_c (c_law_flag F) hr (by decide) (by rfl) (pa_cons (C8.pe_c (c_is_slope F) hr (by decide) (by rfl) (pa_cons (pv 5) (pa_cons (pv 9) (pa_cons (pv 8) pa_nil)))) (pa_cons pe_bl pa_nil))))) (pss_one (ps_ret pe_bl)) pss_nil))))) pss_nil)))))))))))
      (pss_one (ps_ret pe_bl)))), ?_⟩
  obtain ⟨a, ns, rfl, ha, hl, q⟩ := h
  refine ⟨_, rfl, a, ns, rfl, ha, hl, fun H1 p c hp => ?_⟩
  refine ⟨_, rfl, by omega, by omega, ?_⟩
  refine for_it walk_range (fun i σ H2 => ∃ (p2 p3 p4 p5 p6 p7 p8 p9 : Option V), σ = [some (.ref a), some (.ref p), p2, p3, p4, p5, p6, p7, p8, p9] ∧ Pool H2 p c) ⟨_, _, _, _, _, _, _, _, rfl, hp⟩ (fun _ _ _ _ _ => True.intro) (fun i x σ H2 H3 hi h yy => ?_) fun σ H2 h => ?_
  · obtain ⟨rfl, rfl⟩ := yy
    obtain ⟨p2, p3, p4, p5, p6, p7, p8, p9, rfl, P2⟩ := h
    refine ⟨_, rfl, ?_⟩
    refine law_few rfl rfl P2 fun few f1 f12 => ?_
    refine ⟨p, c, few, rfl, P2, f1, f12, fun H4 v n ars s4 P4 dv ok => ?_⟩
    have n1 := ok.pos
    have n12 := ok.few
    have trok := ok.trk
    obtain ⟨t, y, rfl, ht, hy⟩ := told_tup dv
    refine ⟨_, rfl, ?_⟩
    refine law_lim rfl ht fun m m1 m5 => ?_
    refine ⟨p, c, m, rfl, P4, m1, by omega, fun H5 L s5 P5 Lm => ?_⟩
    have dv5 : Dp K H5 (.ref t) (toldD n ars) := Dp.sp P4 s5 (nl_told n ars) dv
    refine ⟨_, rfl, _, n, ars, rfl, dv5, ok, fun H6 x s6 tr6 => ?_⟩
    refine ⟨_, rfl, _, rfl, x, trk n ars, L, rfl, tr6, trok, by omega, fun H7 la g s7 hla kinds iff => ?_⟩
    rw [trk_len] at hla iff
    have s57 := s6.trans s7
    have ht7 := same_t s57 (sqT_sp P4 s5 ht)
    have tr7 := TrAt.same s7 tr6
    have dv7 := Dp.same s57 dv5
    have P7 := P5.same s57
    refine ⟨_, rfl, t, _, _, _, rfl, rfl, ht7, rfl, _, rfl, by omega, by omega, ?_⟩
    have en : ((n : Nat) : Int).toNat = n := by omega
    rw [en]
    refine for_it walk_range (fun j σ H8 => ∃ (p2 p7 p8 p9 : Option V), σ = [some (.ref a), some (.ref p), p2, some (.ref t), some (.int (L : Int)), some x, some (.ref la), p7, p8, p9] ∧ Same H7 H8) ⟨_, _, _, _, rfl, Same.refl _⟩ (fun _ _ _ _ _ => True.intro) (fun j xx σ H8 H9 hj h yy => ?_) fun σ H8 h => ?_
    · obtain ⟨rfl, rfl⟩ := yy
      obtain ⟨p2, p7, p8, p9, rfl, s8⟩ := h
      have ez : ((0 : Int) + (j : Nat)) = (j : Int) := by omega
      show gName 7 (V.int ((0 : Int) + (j : Nat))) _ _ _
      rw [ez]
      have jT : j < (trk n ars).length := by rw [trk_len]; exact hj
      have tr9 := TrAt.same s8 tr7
      have hla9 := s8 _ _ hla
      refine ⟨_, rfl, _, rfl, _, rfl, x, trk n ars, L, j, rfl, tr9, trok, jT, by omega, fun ns H10 s10 => ?_, fun sl H10 b nums s10 hb lst => ?_⟩
      · rw [trk_len] at ns
        have gn : g j ≠ .non := fun z => ns ((iff j hj).mp z)
        have hla10 := s10 _ _ hla9
        refine ⟨_, rfl, rfl, _, rfl, _, rfl, la, _, _, g j, rfl, rfl, SqT.of hla10, atI_nat (byF_get hj), rfl, rfl, _, rfl, ?_⟩
        rw [decide_eq_false gn]
        refine iteF ?_
        refine ⟨_, rfl, _, rfl, _, rfl, x, trk n ars, L, j, rfl, TrAt.same s10 tr9, trok, jT, by omega, fun _ H11 s11 => ?_, fun sl => absurd (by rw [trk_len] at sl; exact sl) ns⟩
        refine ⟨_, rfl, .none, .none, .non, .non, rfl, rfl, _, rfl, iteF ?_⟩
        refine ⟨_, rfl, rfl, _, rfl, iteF ?_⟩
        exact ⟨_, _, _, _, rfl, s8.trans (s10.trans s11)⟩
      · have sl' := sl
        rw [trk_len] at sl'
        have gn : g j = .non := (iff j hj).mpr sl'
        have hla10 := s10 _ _ hla9
        refine ⟨_, rfl, rfl, _, rfl, _, rfl, la, _, _, g j, rfl, rfl, SqT.of hla10, atI_nat (byF_get hj), rfl, rfl, _, rfl, ?_⟩
        rw [gn]
        refine iteF ?_
        refine ⟨_, rfl, _, rfl, _, rfl, x, trk n ars, L, j, rfl, TrAt.same s10 tr9, trok, jT, by omega, fun no => absurd sl no, fun _ H11 b2 nums2 s11 hb2 lst2 => ?_⟩
        have eq := Least.unique lst2 lst
        subst eq
        have hb11 := s11 _ _ hb
        refine ⟨_, rfl, _, _, dp_nums hb2, dp_nums hb11, shaped_nums _, shaped_nums _, _, rfl, ?_⟩
        rw [eqv_nums.mpr rfl]
        refine iteF ?_
        refine ⟨_, rfl, rfl, _, rfl, iteT ?_⟩
        have nl : nums2.length = n := by rw [lst.len, trk_len]
        have has : Has nums2 j := (lst.sup j).mpr sl
        obtain ⟨z, hz⟩ := has
        have s711 := s8.trans (s10.trans s11)
        have S := lst.slope
        rw [trk_len] at S
        refine ⟨_, rfl, _, rfl, _, rfl, _, n, ars, L, b, nums2, rfl, Dp.same s711 dv7, ok, by omega, hb11, nl, ⟨j, z, hz⟩, S, fun H12 s12 => ?_⟩
        refine ⟨_, rfl, iteF ?_⟩
        have hb12 := s12 _ _ hb11
        refine ⟨_, rfl, _, rfl, b, _, _, _, rfl, rfl, SqT.of hb12, atI_nat (vD_get hz), rfl, _, rfl, iteF ?_⟩
        refine ⟨_, rfl, _, _, rfl, rfl, _, rfl, by omega, by omega, ?_⟩
        have s712 := s711.trans s12
        refine for_it walk_range (fun k σ H13 => ∃ (p2 p9 : Option V), σ = [some (.ref a), some (.ref p), p2, some (.ref t), some (.int (L : Int)), some x, some (.ref la), some (.int (j : Int)), some (.ref b), p9] ∧ Same H12 H13) ⟨_, _, rfl, Same.refl _⟩ (fun _ _ _ _ _ => True.intro) (fun k xx σ H13 H14 hk h yy => ?_) fun σ H13 h => ?_
        · obtain ⟨rfl, rfl⟩ := yy
          obtain ⟨p2, p9, rfl, s13⟩ := h
          have kL : k ≤ L := by omega
          have ez : ((0 : Int) + (k : Nat)) = (k : Int) := by omega
          show gName 9 (V.int ((0 : Int) + (k : Nat))) _ _ _
          rw [ez]
          refine ⟨_, rfl, _, rfl, _, rfl, x, trk n ars, k, b, nums2, rfl, TrAt.same (s712.trans s13) tr7, trok, s13 _ _ hb12, by rw [nl, trk_len], ⟨j, z, hz⟩, by omega, fun r zr hr R => ?_, fun H15 s15 => ?_⟩
          · have hrS := lst.slope.held r ⟨zr, hr⟩
            have := not_reach (fun q h => h) hrS (fun q _ => Int.le_refl _) (R.mono (show (k : Int) ≤ (L : Int) by omega))
            rw [num_of hr] at this
            omega
          · refine ⟨rfl, ?_⟩
            refine ⟨_, rfl, iteF ?_⟩
            exact ⟨_, _, rfl, s13.trans s15⟩
        · obtain ⟨p2, p9, rfl, s13⟩ := h
          exact ⟨_, _, _, _, rfl, s712.trans s13⟩
    · obtain ⟨p2, p7, p8, p9, rfl, s8⟩ := h
      exact ⟨_, _, _, _, _, _, _, _, rfl, P7.same s8⟩
  · exact q H2
end
end K68
set_option maxRecDepth 100000
set_option maxHeartbeats 0
namespace K68
open PySem PySem.Spec PyProof.Rows L2
theorem facts {P : Program} {w : World} {K : PySem.W.Frag} {h : Heap} {mg : Str → Option Value} {f : Addr} (X : K.In h) (G : h.Ns mainGlobals mg) (hf : mg ("law" : Str) = some (.ref f)) (c : He.SaysD hfa hfn K) :
    ∃ fd : FuncData, (∀ (s : Shared) (v : Value), BindsTo s fd ⟨[v], []⟩ [("_law_script", v)]) ∧ ∀ base : Heap, K.In base → base.Ns mainGlobals mg → FnOk P w K mg base CX0 13 f fd ["_law_script"] (spLaw K) := by
  have F := Fx.of X G c
  have e := hf.symm.trans (He.glo_ok X G (c.fact 54 (f := .glo "law") rfl))
  cases e
  obtain ⟨fd, FD0⟩ := F.says.def_ 56 (d := d_law) rfl
  have FD : FunD K "law" "law" (defArgs s_law) (defBody s_law) (defScope s_law) [] [] (He.ga K "law") fd := FD0
  have b := FunD.bindsA (ps := ["_law_script"]) FD fun _ _ _ _ _ _ us hl => match us, hl with | [_], _ => rfl
  have FF := He5.fun_of FD
  exact ⟨fd, fun s v => b s [v] rfl, fun base _ _ => FF.ok sc_law (fun vs H Q E h => by obtain ⟨a, ns, rfl, _⟩ := h; rfl) fun cdv A outer s H vs Q E hr h => law_body F _ cdv A outer s H vs Q E hr h⟩
end K68
open PySem PySem.W PySem.Calls PyProof.Rows
theorem PySem.Challenge.cw_wholestakes_k68_whole_slopes_by_all_stak_holds : PySem.Challenge.rw_wholestakes_k68_whole_slopes_by_all_stak.Holds := by
  w_on; o_law
  refine HandSHeadRun.head_any (r := K68.R) (q := view K68.R.prog [74]) (H := K68.hk) (ob := K68.ob) (M := 6000) (loose := K68.loose) (d := HandSHeadRun.topDef K68.R.prog 74) (kwd := []) K68.ob_eq
    (by kernel_rfl) (fun s => by kernel_rfl) K68.run (by kernel_rfl) (by kernel_rfl) (by kernel_rfl) (by rfl) (by first | assumption | decide +kernel) (by decide +kernel) ⟨rfl, rfl, rfl, rfl, rfl, by decide +kernel⟩ ?hw ?hc
  case hw => w_witness2
  case hc =>
    refine L2.walk_ofE (l := PySem.Challenge.rw_wholestakes_k68_whole_slopes_by_all_stak) (n := 63) (k := 13) (x := "_law_script") (CX := L2.CX0) rfl (by decide) (by kernel_rfl) ⟨rfl, by decide, by decide⟩ ?F (fun _ _ _ _ z => z)
    intro w mg fa h Y G hmg0
    obtain ⟨K, KX, c⟩ := Y
    have hmg : mg ("law" : PySem.Str) = some (.ref fa) := by
      have e : (HandSHeadRun.topDef K68.R.prog 74).name = ("law" : PySem.Str) := by kernel_rfl
      rw [← e]
      exact hmg0
    obtain ⟨fd, hb, hF⟩ := K68.facts (P := (PySem.Challenge.rw_wholestakes_k68_whole_slopes_by_all_stak).prog) (w := w) KX G hmg c
    exact ⟨K, fd, K68.spLaw K, KX, hb, fun H a ns hl _ hS => ⟨a, ns, rfl, hS, hl, fun _ => rfl⟩, hF⟩
