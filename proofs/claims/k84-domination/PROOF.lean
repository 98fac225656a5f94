import PyProof.Rows.All
import Wide.All
import OpenK.AllK
import Wide.FinOn
import HandS.ForMost
import HandS.Property
import HandS.ClsMeth
import HandS.IsInst
import HandS.HeadNt
import PySem.Challenge.RW_nearswap_k84_whole_domination_and_sorted
import KE.KStateDown
import Lean
import HandS.Head0
import HandS.Head1
import HandS.Head2
import HandS.HeadEnd
import HandS.HeadHook4
import HandS.GenList
import Wide.BridgeG
import HandS.EndBits
import HandS.Nested
import PyProof.GenObj
import HandS.GenYield
import PyProof.GenRules
import HandS.Star
import HandS.GenCall
import HandS.Defaults
import HandS.WordsList
import HandS.Conv
import HandS.Rev
import HandS.SortInts
import HandS.DictTup
import HandS.Flow
import KE.GoesEnum
import HandS.Zip
import HandS.Style
import KE.KEqSeq
import KE.BitLaws
import KE.GoesZip
import PyProof.Rows.TupDisplay
import KE.KDictCopyH
import HandS.Deep
import HandS.EndTab
import HandS.NestedK
set_option Elab.async false
set_option linter.all false
set_option maxRecDepth 100000
set_option maxHeartbeats 0
section
/-! The text by places; the data of each def. Printed by gen_defs.py -/
namespace Nw
open PySem PySem.Spec PyProof.Rows L2
def top (i : Nat) : Stmt := PySem.Challenge.pw_nearswap_k84_whole_domination_and_sorted.main.body.getD i (.Pass ⟨0, 0, 0, 0⟩)

abbrev s_is_integer : Stmt := top 9
abbrev s_is_any_integer : Stmt := top 10
abbrev s_check_width_networks : Stmt := top 12
abbrev s_check_steps : Stmt := top 14
abbrev s_check_widths : Stmt := top 15
abbrev s_Network_init : Stmt := inClass (top 16) 2
abbrev s_Network_width : Stmt := inClass (top 16) 3
abbrev s_Network_steps : Stmt := inClass (top 16) 4
abbrev s_Network_backwards : Stmt := inClass (top 16) 10
abbrev s_Network_len : Stmt := inClass (top 16) 14
abbrev s_check_integers : Stmt := top 18
abbrev s_check_values : Stmt := top 19
abbrev s_step_on : Stmt := top 20
abbrev s_result_of : Stmt := top 21
abbrev s_run : Stmt := top 22
abbrev s_exchanges : Stmt := top 23
abbrev s_descending : Stmt := top 25
abbrev s_profile : Stmt := top 26
abbrev s_at_most : Stmt := top 27
abbrev s_count_small : Stmt := top 29
abbrev s_is_gap : Stmt := top 30
abbrev s_first_gap : Stmt := top 31
abbrev s_dominates : Stmt := top 32
abbrev s_active : Stmt := top 34
abbrev s_reduced : Stmt := top 35
abbrev s_is_ascending : Stmt := top 37
abbrev s_sorts : Stmt := top 38
abbrev s_hardest : Stmt := top 39
abbrev s_places_up_to : Stmt := top 40
abbrev s_limits : Stmt := top 41
abbrev s_check_width_counting : Stmt := top 45
abbrev s_is_nowhere_greater : Stmt := top 47
abbrev s_extended_ways : Stmt := top 48
abbrev s_count_sorted : Stmt := top 49
abbrev s_arrangements : Stmt := top 50
abbrev s_sorted_arrangements : Stmt := top 51
abbrev s_law_source : Stmt := top 53
abbrev s_law_draw : Stmt := top 54
abbrev s_law_steps : Stmt := top 55
abbrev s_law_result : Stmt := top 56
abbrev s_law_bits : Stmt := top 58
abbrev s_law_is_as_far : Stmt := top 59
abbrev s_law_all_bits : Stmt := top 60
abbrev s_law_second : Stmt := top 61
abbrev s_law_limits_hold : Stmt := top 62
abbrev s_law_small_holds : Stmt := top 63
abbrev s_law_large_holds : Stmt := top 64
abbrev s_law : Stmt := top 65
/-- the getter of a property -/
def pgA (K : PySem.W.Frag) (C f : Str) : Addr := match PySem.W.recIn K (He.ma K (He.ga K C) f) "property" with
  | some (.ref g :: _) => g
  | _ => 0
open He He5
def d_is_integer : He5.DefA := ⟨fun K => He.ga K "is_integer", "is_integer", "is_integer", defArgs s_is_integer, defBody s_is_integer, defScope s_is_integer, [], []⟩
def d_is_any_integer : He5.DefA := ⟨fun K => He.ga K "is_any_integer", "is_any_integer", "is_any_integer", defArgs s_is_any_integer, defBody s_is_any_integer, defScope s_is_any_integer, [], []⟩
def d_check_width_networks : He5.DefA := ⟨fun K => He.ga K "check_width_networks", "check_width", "check_width", defArgs s_check_width_networks, defBody s_check_width_networks, defScope s_check_width_networks, [], []⟩
def d_check_steps : He5.DefA := ⟨fun K => He.ga K "check_steps", "check_steps", "check_steps", defArgs s_check_steps, defBody s_check_steps, defScope s_check_steps, [], []⟩
def d_check_widths : He5.DefA := ⟨fun K => He.ga K "check_widths", "check_widths", "check_widths", defArgs s_check_widths, defBody s_check_widths, defScope s_check_widths, [], []⟩
def d_Network_init : He5.DefA := ⟨fun K => He.ma K (He.ga K "Network") "__init__", "__init__", "Network.__init__", defArgs s_Network_init, defBody s_Network_init, defScope s_Network_init, [], []⟩
def d_Network_width : He5.DefA := ⟨fun K => pgA K "Network" "width", "width", "Network.width", defArgs s_Network_width, defBody s_Network_width, defScope s_Network_width, [], []⟩
def d_Network_steps : He5.DefA := ⟨fun K => pgA K "Network" "steps", "steps", "Network.steps", defArgs s_Network_steps, defBody s_Network_steps, defScope s_Network_steps, [], []⟩
def d_Network_backwards : He5.DefA := ⟨fun K => He.ma K (He.ga K "Network") "backwards", "backwards", "Network.backwards", defArgs s_Network_backwards, defBody s_Network_backwards, defScope s_Network_backwards, [], []⟩
def d_Network_len : He5.DefA := ⟨fun K => He.ma K (He.ga K "Network") "__len__", "__len__", "Network.__len__", defArgs s_Network_len, defBody s_Network_len, defScope s_Network_len, [], []⟩
def d_check_integers : He5.DefA := ⟨fun K => He.ga K "check_integers", "check_integers", "check_integers", defArgs s_check_integers, defBody s_check_integers, defScope s_check_integers, [], []⟩
def d_check_values : He5.DefA := ⟨fun K => He.ga K "check_values", "check_values", "check_values", defArgs s_check_values, defBody s_check_values, defScope s_check_values, [], []⟩
def d_step_on : He5.DefA := ⟨fun K => He.ga K "step_on", "step_on", "step_on", defArgs s_step_on, defBody s_step_on, defScope s_step_on, [], []⟩
def d_result_of : He5.DefA := ⟨fun K => He.ga K "result_of", "result_of", "result_of", defArgs s_result_of, defBody s_result_of, defScope s_result_of, [], []⟩
def d_run : He5.DefA := ⟨fun K => He.ga K "run", "run", "run", defArgs s_run, defBody s_run, defScope s_run, [], []⟩
def d_exchanges : He5.DefA := ⟨fun K => He.ga K "exchanges", "exchanges", "exchanges", defArgs s_exchanges, defBody s_exchanges, defScope s_exchanges, [], []⟩
def d_descending : He5.DefA := ⟨fun K => He.ga K "descending", "descending", "descending", defArgs s_descending, defBody s_descending, defScope s_descending, [], []⟩
def d_profile : He5.DefA := ⟨fun K => He.ga K "profile", "profile", "profile", defArgs s_profile, defBody s_profile, defScope s_profile, [], []⟩
def d_at_most : He5.DefA := ⟨fun K => He.ga K "at_most", "at_most", "at_most", defArgs s_at_most, defBody s_at_most, defScope s_at_most, [], []⟩
def d_count_small : He5.DefA := ⟨fun K => He.ga K "count_small", "count_small", "count_small", defArgs s_count_small, defBody s_count_small, defScope s_count_small, [], []⟩
def d_is_gap : He5.DefA := ⟨fun K => He.ga K "is_gap", "is_gap", "is_gap", defArgs s_is_gap, defBody s_is_gap, defScope s_is_gap, [], []⟩
def d_first_gap : He5.DefA := ⟨fun K => He.ga K "first_gap", "first_gap", "first_gap", defArgs s_first_gap, defBody s_first_gap, defScope s_first_gap, [], []⟩
def d_dominates : He5.DefA := ⟨fun K => He.ga K "dominates", "dominates", "dominates", defArgs s_dominates, defBody s_dominates, defScope s_dominates, [], []⟩
def d_active : He5.DefA := ⟨fun K => He.ga K "active", "active", "active", defArgs s_active, defBody s_active, defScope s_active, [], []⟩
def d_reduced : He5.DefA := ⟨fun K => He.ga K "reduced", "reduced", "reduced", defArgs s_reduced, defBody s_reduced, defScope s_reduced, [], []⟩
def d_is_ascending : He5.DefA := ⟨fun K => He.ga K "is_ascending", "is_ascending", "is_ascending", defArgs s_is_ascending, defBody s_is_ascending, defScope s_is_ascending, [], []⟩
def d_sorts : He5.DefA := ⟨fun K => He.ga K "sorts", "sorts", "sorts", defArgs s_sorts, defBody s_sorts, defScope s_sorts, [], []⟩
def d_hardest : He5.DefA := ⟨fun K => He.ga K "hardest", "hardest", "hardest", defArgs s_hardest, defBody s_hardest, defScope s_hardest, [], []⟩
def d_places_up_to : He5.DefA := ⟨fun K => He.ga K "places_up_to", "places_up_to", "places_up_to", defArgs s_places_up_to, defBody s_places_up_to, defScope s_places_up_to, [], []⟩
def d_limits : He5.DefA := ⟨fun K => He.ga K "limits", "limits", "limits", defArgs s_limits, defBody s_limits, defScope s_limits, [], []⟩
def d_check_width_counting : He5.DefA := ⟨fun K => He.ga K "check_width_counting", "check_width", "check_width", defArgs s_check_width_counting, defBody s_check_width_counting, defScope s_check_width_counting, [], []⟩
def d_is_nowhere_greater : He5.DefA := ⟨fun K => He.ga K "is_nowhere_greater", "is_nowhere_greater", "is_nowhere_greater", defArgs s_is_nowhere_greater, defBody s_is_nowhere_greater, defScope s_is_nowhere_greater, [], []⟩
def d_extended_ways : He5.DefA := ⟨fun K => He.ga K "extended_ways", "extended_ways", "extended_ways", defArgs s_extended_ways, defBody s_extended_ways, defScope s_extended_ways, [], []⟩
def d_count_sorted : He5.DefA := ⟨fun K => He.ga K "count_sorted", "count_sorted", "count_sorted", defArgs s_count_sorted, defBody s_count_sorted, defScope s_count_sorted, [], []⟩
def d_arrangements : He5.DefA := ⟨fun K => He.ga K "arrangements", "arrangements", "arrangements", defArgs s_arrangements, defBody s_arrangements, defScope s_arrangements, [], []⟩
def d_sorted_arrangements : He5.DefA := ⟨fun K => He.ga K "sorted_arrangements", "sorted_arrangements", "sorted_arrangements", defArgs s_sorted_arrangements, defBody s_sorted_arrangements, defScope s_sorted_arrangements, [], []⟩
def d_law_source : He5.DefA := ⟨fun K => He.ga K "_law_source", "_law_source", "_law_source", defArgs s_law_source, defBody s_law_source, defScope s_law_source, [], []⟩
def d_law_draw : He5.DefA := ⟨fun K => He.ga K "_law_draw", "_law_draw", "_law_draw", defArgs s_law_draw, defBody s_law_draw, defScope s_law_draw, [], []⟩
def d_law_steps : He5.DefA := ⟨fun K => He.ga K "_law_steps", "_law_steps", "_law_steps", defArgs s_law_steps, defBody s_law_steps, defScope s_law_steps, [], []⟩
def d_law_result : He5.DefA := ⟨fun K => He.ga K "_law_result", "_law_result", "_law_result", defArgs s_law_result, defBody s_law_result, defScope s_law_result, [], []⟩
def d_law_bits : He5.DefA := ⟨fun K => He.ga K "_law_bits", "_law_bits", "_law_bits", defArgs s_law_bits, defBody s_law_bits, defScope s_law_bits, [], []⟩
def d_law_is_as_far : He5.DefA := ⟨fun K => He.ga K "_law_is_as_far", "_law_is_as_far", "_law_is_as_far", defArgs s_law_is_as_far, defBody s_law_is_as_far, defScope s_law_is_as_far, [], []⟩
def d_law_all_bits : He5.DefA := ⟨fun K => He.ga K "_law_all_bits", "_law_all_bits", "_law_all_bits", defArgs s_law_all_bits, defBody s_law_all_bits, defScope s_law_all_bits, [], []⟩
def d_law_second : He5.DefA := ⟨fun K => He.ga K "_law_second", "_law_second", "_law_second", defArgs s_law_second, defBody s_law_second, defScope s_law_second, [], []⟩
def d_law_limits_hold : He5.DefA := ⟨fun K => He.ga K "_law_limits_hold", "_law_limits_hold", "_law_limits_hold", defArgs s_law_limits_hold, defBody s_law_limits_hold, defScope s_law_limits_hold, [], []⟩
def d_law_small_holds : He5.DefA := ⟨fun K => He.ga K "_law_small_holds", "_law_small_holds", "_law_small_holds", defArgs s_law_small_holds, defBody s_law_small_holds, defScope s_law_small_holds, [], []⟩
def d_law_large_holds : He5.DefA := ⟨fun K => He.ga K "_law_large_holds", "_law_large_holds", "_law_large_holds", defArgs s_law_large_holds, defBody s_law_large_holds, defScope s_law_large_holds, [], []⟩
def d_law : He5.DefA := ⟨fun K => He.ga K "law", "law", "law", defArgs s_law, defBody s_law, defScope s_law, [], []⟩
def fn : List He5.DefA := [d_is_integer, d_is_any_integer, d_check_width_networks, d_check_steps, d_check_widths, d_Network_init, d_Network_width, d_Network_steps, d_Network_backwards, d_Network_len, d_check_integers, d_check_values, d_step_on, d_result_of, d_run, d_exchanges, d_descending, d_profile, d_at_most, d_count_small, d_is_gap, d_first_gap, d_dominates, d_active, d_reduced, d_is_ascending, d_sorts, d_hardest, d_places_up_to, d_limits, d_check_width_counting, d_is_nowhere_greater, d_extended_ways, d_count_sorted, d_arrangements, d_sorted_arrangements, d_law_source, d_law_draw, d_law_steps, d_law_result, d_law_bits, d_law_is_as_far, d_law_all_bits, d_law_second, d_law_limits_hold, d_law_small_holds, d_law_large_holds, d_law]
-- 0 is_integer
-- 1 is_any_integer
-- 2 check_width_networks
-- 3 check_steps
-- 4 check_widths
-- 5 Network.__init__
-- 6 Network.width
-- 7 Network.steps
-- 8 Network.backwards
-- 9 Network.__len__
-- 10 check_integers
-- 11 check_values
-- 12 step_on
-- 13 result_of
-- 14 run
-- 15 exchanges
-- 16 descending
-- 17 profile
-- 18 at_most
-- 19 count_small
-- 20 is_gap
-- 21 first_gap
-- 22 dominates
-- 23 active
-- 24 reduced
-- 25 is_ascending
-- 26 sorts
-- 27 hardest
-- 28 places_up_to
-- 29 limits
-- 30 check_width_counting
-- 31 is_nowhere_greater
-- 32 extended_ways
-- 33 count_sorted
-- 34 arrangements
-- 35 sorted_arrangements
-- 36 _law_source
-- 37 _law_draw
-- 38 _law_steps
-- 39 _law_result
-- 40 _law_bits
-- 41 _law_is_as_far
-- 42 _law_all_bits
-- 43 _law_second
-- 44 _law_limits_hold
-- 45 _law_small_holds
-- 46 _law_large_holds
-- 47 law
def fa : List He.Fa := [.glo "is_integer", .glo "is_any_integer", .glo "check_width_networks", .glo "check_steps", .glo "check_widths", .glo "check_integers", .glo "check_values", .glo "step_on", .glo "result_of", .glo "run", .glo "exchanges", .glo "descending", .glo "profile", .glo "at_most", .glo "count_small", .glo "is_gap", .glo "first_gap", .glo "dominates", .glo "active", .glo "reduced", .glo "is_ascending", .glo "sorts", .glo "hardest", .glo "places_up_to", .glo "limits", .glo "check_width_counting", .glo "is_nowhere_greater", .glo "extended_ways", .glo "count_sorted", .glo "arrangements", .glo "sorted_arrangements", .glo "_law_source", .glo "_law_draw", .glo "_law_steps", .glo "_law_result", .glo "_law_bits", .glo "_law_is_as_far", .glo "_law_all_bits", .glo "_law_second", .glo "_law_limits_hold", .glo "_law_small_holds", .glo "_law_large_holds", .glo "law", .glo "Network", .free "len", .free "range", .free "isinstance", .free "list", .free "tuple", .free "int", .free "bool", .free "sum", .free "sorted", .free "all", .free "zip", .free "enumerate", .free "abs", .free "min", .free "max", .int "MAX_COUNT_WIDTH" 10, .int "MAX_LIST_WIDTH" 6, .cls "Network", .noat "Network" "own_width", .noat "Network" "own_steps", .meth "Network" "backwards", .meth "Network" "__len__", .mkr "Network"]
-- 0 .glo "is_integer"
-- 1 .glo "is_any_integer"
-- 2 .glo "check_width_networks"
-- 3 .glo "check_steps"
-- 4 .glo "check_widths"
-- 5 .glo "check_integers"
-- 6 .glo "check_values"
-- 7 .glo "step_on"
-- 8 .glo "result_of"
-- 9 .glo "run"
-- 10 .glo "exchanges"
-- 11 .glo "descending"
-- 12 .glo "profile"
-- 13 .glo "at_most"
-- 14 .glo "count_small"
-- 15 .glo "is_gap"
-- 16 .glo "first_gap"
-- 17 .glo "dominates"
-- 18 .glo "active"
-- 19 .glo "reduced"
-- 20 .glo "is_ascending"
-- 21 .glo "sorts"
-- 22 .glo "hardest"
-- 23 .glo "places_up_to"
-- 24 .glo "limits"
-- 25 .glo "check_width_counting"
-- 26 .glo "is_nowhere_greater"
-- 27 .glo "extended_ways"
-- 28 .glo "count_sorted"
-- 29 .glo "arrangements"
-- 30 .glo "sorted_arrangements"
-- 31 .glo "_law_source"
-- 32 .glo "_law_draw"
-- 33 .glo "_law_steps"
-- 34 .glo "_law_result"
-- 35 .glo "_law_bits"
-- 36 .glo "_law_is_as_far"
-- 37 .glo "_law_all_bits"
-- 38 .glo "_law_second"
-- 39 .glo "_law_limits_hold"
-- 40 .glo "_law_small_holds"
-- 41 .glo "_law_large_holds"
-- 42 .glo "law"
-- 43 .glo "Network"
-- 44 .free "len"
-- 45 .free "range"
-- 46 .free "isinstance"
-- 47 .free "list"
-- 48 .free "tuple"
-- 49 .free "int"
-- 50 .free "bool"
-- 51 .free "sum"
-- 52 .free "sorted"
-- 53 .free "all"
-- 54 .free "zip"
-- 55 .free "enumerate"
-- 56 .free "abs"
-- 57 .free "min"
-- 58 .free "max"
-- 59 .int "MAX_COUNT_WIDTH" 10
-- 60 .int "MAX_LIST_WIDTH" 6
-- 61 .cls "Network"
-- 62 .noat "Network" "own_width"
-- 63 .noat "Network" "own_steps"
-- 64 .meth "Network" "backwards"
-- 65 .meth "Network" "__len__"
-- 66 .mkr "Network"
/-- the property f of Network -/
def propB (K : PySem.W.Frag) (f : Str) : Bool :=
  He.eqO (PySem.W.findIn K (.ref (He.ga K "Network")) f) (some (some (.ref (He.ma K (He.ga K "Network") f)))) &&
  (He.eqO (PySem.W.specialIn K (.ref (He.ma K (He.ga K "Network") f)) "__get__") (some (some (.builtin "property.__get__"))) &&
  (decide (PySem.W.takesIn K (.ref (He.ma K (He.ga K "Network") f)) = some true) &&
  (match PySem.W.recIn K (He.ma K (He.ga K "Network") f) "property" with
    | some (.ref _ :: _) => true
    | _ => false)))
/-- the int constant f of Network -/
def cvalB (K : PySem.W.Frag) (f : Str) (i : Int) : Bool := match PySem.W.findCls K (.ref (He.ga K "Network")) (.type "type") f with
  | some (.val (.int j _)) => decide (j = i)
  | _ => false
def creadB (K : PySem.W.Frag) : Bool := PySem.W.readsIn K (He.ga K "Network") (.type "type") && He.eqO (PySem.W.specialIn K (.ref (He.ga K "Network")) "__getattribute__") (some (some (.builtin "type.__getattribute__")))
def exB (K : PySem.W.Frag) : Bool := propB K "width" && (propB K "steps" && (cvalB K "MAX_WIDTH" 40 && (cvalB K "MAX_STEPS" 1000 && creadB K)))
end Nw
end
section
/-! The head: one kernel run of the top. -/
namespace Nw
open PySem PySem.Spec PyProof.Rows L2
abbrev AlN : Type := He.AlD × Bool
abbrev defA : He.Defn := ("arrangements", none)
abbrev fragN (g : Addr → Option Obj) (n : Nat) : PySem.W.Frag := He.frT g (He5.asA g n)
def obsN (n : Nat) (g : Addr → Option Obj) : AlN := (He5.obsA fa fn (fragN g n), exB (fragN g n) && He.tabsB g [defA] (fragN g n))
structure SaysN (h : Heap) (K : PySem.W.Frag) : Prop where
  all : He5.SaysA fa fn K
  ex : exB K = true
  hd : PySem.W.codeHdIn K (He.cT K defA).1 (He.cT K defA).2 = true
  out : K.lookup (He.cT K defA).2 = none
  empty : h.get? (He.cT K defA).2 = some { cls := .none, data := .fields #[] }
theorem saysN_of {n : Nat} {h : Heap} (e : obsN n h.get? = (He5.valA fn, true)) : SaysN h (fragN h.get? n) := by
  have e1 : He5.obsA fa fn (fragN h.get? n) = He5.valA fn := congrArg (fun z : AlN => z.1) e
  have e2 : (exB (fragN h.get? n) && He.tabsB h.get? [defA] (fragN h.get? n)) = true := congrArg (fun z : AlN => z.2) e
  obtain ⟨h1, h2⟩ := Bool.and_eq_true_iff.mp e2
  obtain ⟨h3, h4⟩ := Bool.and_eq_true_iff.mp (List.all_eq_true.mp h2 defA List.mem_cons_self)
  cases q : h.get? (He.cT (fragN h.get? n) defA).2 with
  | none =>
    rw [q] at h4
    cases h4
  | some o =>
    rw [q] at h4
    exact ⟨e1, h1, h3, He.frT_none q h4, by rw [q, He.emptyTab_eq h4]⟩
def hookN (n : Nat) : PySem.W.Hook where
  α := AlN
  obs := fun s => obsN n s.heap.get?
  val := fun _ => (He5.valA fn, true)
  says := fun _ h => ∃ K : PySem.W.Frag, K.In h ∧ SaysN h K
  of := fun _ _ e => ⟨_, He.frT_in, saysN_of e⟩
  keeps := fun _ _ _ ⟨K, hK, c⟩ k => ⟨K, PySem.W.Frag.In.keeps hK k, ⟨c.all, c.ex, c.hd, c.out, k _ _ c.empty⟩⟩
theorem obsN_eq {n : Nat} {g : Addr → Option Obj} {s : Shared} (h : ∀ a, g a = s.heap.get? a) : obsN n g = (hookN n).obs s := by
  have e : g = s.heap.get? := funext h
  rw [e] <;> rfl
abbrev R : PySem.W.OpenRow := PySem.W.OpenLaw.row PySem.Challenge.rw_nearswap_k84_whole_domination_and_sorted
abbrev hk : PySem.W.Hook := hookN 6
def ob (s : PySem.W.SharedT) : AlN := obsN 6 (HandSHeadRun.getT s)
theorem ob_eq (s : PySem.W.SharedT) : ob s = hk.obs s.abs := obsN_eq (HandSHeadRun.getT_eq s)
def loose1 : List PySem.Str := ["_wall", "NetworkError", "InvalidWidth", "InvalidStep", "InvalidValues", "WidthMismatch", "LimitExceeded", "is_integer", "is_any_integer", "check_width", "check_width_networks", "check_steps", "check_widths", "Network", "check_integers", "check_values", "step_on", "result_of", "run", "exchanges", "descending", "profile", "at_most", "count_small", "is_gap", "first_gap", "dominates", "active", "reduced", "is_ascending", "sorts"]
def loose2 : List PySem.Str := ["hardest", "places_up_to", "limits", "MAX_COUNT_WIDTH", "MAX_LIST_WIDTH", "check_width_counting", "is_nowhere_greater", "extended_ways", "count_sorted", "arrangements", "sorted_arrangements", "_law_source", "_law_draw", "_law_steps", "_law_result", "_law_is_ascending", "_law_bits", "_law_is_as_far", "_law_all_bits", "_law_second", "_law_limits_hold", "_law_small_holds", "_law_large_holds"]
def loose : List PySem.Str := loose1 ++ loose2
theorem run (w : World) : HandSHeadRun.RunEq R (PySem.W.view R.prog [65]) hk ob 6000 loose w := by
  intro os
  kernel_rfl
end Nw
end
section
/-! A run cannot wake a generator whose continuation is unsupported, and what it sees of one is the same: so what a contract
tells of such a table holds of the real one too, and the sleeping generators are as they were. -/
namespace NwB
open PySem
open Sem (wp)
/-- no generator's frame among these -/
def ng : List Frame → Bool
  | [] => true
  | .gen .. :: _ => false
  | .ret .. :: r => ng r
theorem ng_append : ∀ (a b : List Frame), ng a = true → ng b = true → ng (a ++ b) = true
  | [], _, _, h => h
  | .gen .. :: _, _, h, _ => nomatch h
  | .ret .. :: r, b, h, h' => ng_append r b h h'
theorem ng_split : ∀ {l : List Frame}, ng l = true → splitAtGen l = none
  | [], _ => rfl
  | .gen .. :: _, h => nomatch h
  | .ret .. :: r, h => by
    show (splitAtGen r).map _ = none
    rw [ng_split (l := r) h]; rfl
def bomb : GenState → GenState
  | .suspended _ l c p fs _ => .suspended (fun _ => .unsupported "") l c p fs false
  | x => x
theorem bomb_seen (x : GenState) : (bomb x).seen = x.seen := by cases x <;> rfl
theorem bomb_bare (x : GenState) : (bomb x).bare = true := by cases x <;> rfl
theorem bombs_bare (T : Array GenState) : ∀ y ∈ T.map bomb, y.bare = true := fun y hy => by
  obtain ⟨x, _, rfl⟩ := Array.mem_map.mp hy
  exact bomb_bare x
/-- it has begun -/
def Begun : GenState → Prop
  | .fresh _ => False
  | _ => True
def CleanG (x : GenState) : Prop := match x with
  | .suspended _ _ _ _ fs _ => ng fs = true
  | _ => True
def CleanE (e : End) : Prop := match e with
  | .susp _ _ _ _ _ _ fs => ng fs = true
  | _ => True
theorem CleanE.gs {e : End} (h : CleanE e) : CleanG e.genState := by cases e <;> exact h
/-- T0: the table at the start; T: the real one; B: the one with bombs -/
structure J (T0 T B : Array GenState) : Prop where
  size : T.size = B.size
  le : T0.size ≤ T.size
  at_ : ∀ i : Nat, (∃ x, T0[i]? = some x ∧ T[i]? = some x ∧ B[i]? = some (bomb x)) ∨ (T[i]? = B[i]? ∧ (∀ x, B[i]? = some x → CleanG x) ∧ ∀ x, T0[i]? = some x → ¬ Begun x)
theorem J.start (T : Array GenState) : J T T (T.map bomb) where
  size := by simp
  le := Nat.le_refl _
  at_ := fun i => by
    cases e : T[i]? with
    | some x => exact .inl ⟨x, rfl, rfl, by rw [Array.getElem?_map, e]; rfl⟩
    | none =>
      refine .inr ⟨by rw [Array.getElem?_map, e]; rfl, fun x h => ?_, fun x h => nomatch h⟩
      rw [Array.getElem?_map, e] at h; cases h
section
variable {T0 T B : Array GenState}
theorem J.kept (j : J T0 T B) {i : Nat} {x : GenState} (h : T0[i]? = some x) (b : Begun x) : T[i]? = some x := by
  rcases j.at_ i with ⟨y, h1, h2, _⟩ | ⟨_, _, h3⟩
  · rw [h] at h1; cases h1; exact h2
  · exact absurd b (h3 x h)
theorem J.bare (j : J T0 T B) (h : ∀ y ∈ B, y.bare = true) (i : Nat) (x : GenState) (e : T[i]? = some x) : x.bare = true ∨ T0[i]? = some x := by
  rcases j.at_ i with ⟨y, h1, h2, h3⟩ | ⟨h1, _, _⟩
  · rw [e] at h2; cases h2; exact .inr h1
  · rw [e] at h1; exact .inl (h _ (Array.mem_of_getElem? h1.symm))
theorem J.seen (j : J T0 T B) {g : Nat} {st : GenState} (h : B[g]? = some st) : ∃ x, T[g]? = some x ∧ x.seen = st.seen := by
  rcases j.at_ g with ⟨x, _, h2, h3⟩ | ⟨h1, _, _⟩
  · rw [h] at h3; cases h3; exact ⟨x, h2, (bomb_seen x).symm⟩
  · exact ⟨st, h1.trans h, rfl⟩
theorem J.push (j : J T0 T B) {x : GenState} (hx : CleanG x) : J T0 (T.push x) (B.push x) where
  size := by simp [j.size]
  le := by have := j.le; simp; omega
  at_ := fun i => by
    by_cases hi : i < T.size
    · have e1 : (T.push x)[i]? = T[i]? := Array.getElem?_push_lt hi ▸ (Array.getElem?_eq_getElem hi).symm
      have hi' : i < B.size := j.size ▸ hi
      have e2 : (B.push x)[i]? = B[i]? := Array.getElem?_push_lt hi' ▸ (Array.getElem?_eq_getElem hi').symm
      rw [e1, e2]; exact j.at_ i
    · by_cases hi2 : i = T.size
      · refine .inr ⟨?_, fun y h => ?_, fun y h => ?_⟩
        · rw [hi2, Array.getElem?_push_size, j.size, Array.getElem?_push_size]
        · rw [hi2, j.size, Array.getElem?_push_size] at h; cases h; exact hx
        · have := (Array.getElem?_eq_some_iff.mp h).1
          have := j.le; omega
      · have h1 : T.size + 1 ≤ i := by omega
        refine .inr ⟨?_, fun y h => ?_, fun y h => ?_⟩
        · rw [Array.getElem?_eq_none (by simp; omega), Array.getElem?_eq_none (by have := j.size; simp; omega)]
        · have h2 := (Array.getElem?_eq_some_iff.mp h).1
          have h3 := j.size
          rw [Array.size_push] at h2; omega
        · have := (Array.getElem?_eq_some_iff.mp h).1
          have := j.le; omega
theorem J.set (j : J T0 T B) {g : Nat} {x : GenState} (hx : CleanG x) (hg : ∀ y, T0[g]? = some y → ¬ Begun y) : J T0 (T.setIfInBounds g x) (B.setIfInBounds g x) where
  size := by simp [j.size]
  le := by have := j.le; simp; omega
  at_ := fun i => by
    by_cases hi : i = g
    · subst hi
      refine .inr ⟨?_, fun y h => ?_, hg⟩
      · rw [Array.getElem?_setIfInBounds_self, Array.getElem?_setIfInBounds_self, j.size]
      · rw [Array.getElem?_setIfInBounds_self] at h
        split at h
        · cases h; exact hx
        · cases h
    · rw [Array.getElem?_setIfInBounds_ne (Ne.symm hi), Array.getElem?_setIfInBounds_ne (Ne.symm hi)]
      exact j.at_ i
/-- an entry of the bombed table that is no suspended one stands in the real table -/
theorem J.plain (j : J T0 T B) {g : Nat} {st : GenState} (h : B[g]? = some st) (hs : ∀ k l c p fs cl, st ≠ .suspended k l c p fs cl) : T[g]? = some st := by
  rcases j.at_ g with ⟨x, _, h2, h3⟩ | ⟨h1, _, _⟩
  · rw [h] at h3
    cases x with
    | suspended k l c p fs cl => exact absurd (Option.some.inj h3) (hs _ _ _ _ _ _)
    | _ => cases h3; exact h2
  · rw [h1]; exact h
theorem J.fresh (j : J T0 T B) {g : Nat} {c : Code} (h : B[g]? = some (.fresh c)) : T[g]? = some (.fresh c) ∧ ∀ y, T0[g]? = some y → ¬ Begun y := by
  refine ⟨j.plain h (fun _ _ _ _ _ _ z => nomatch z), fun y hy hb => ?_⟩
  have h2 := j.kept hy hb
  rw [j.plain h (fun _ _ _ _ _ _ z => nomatch z)] at h2
  cases h2; exact hb
end
theorem J.susp {T0 T B : Array GenState} (j : J T0 T B) {g : Nat} {k : Resume → Sem PySem.Fin} {l : List Value} {c : Code} {p : Pos} {fs : List Frame} {cl : Bool} (h : B[g]? = some (.suspended k l c p fs cl)) :
    (k = fun _ => .unsupported "") ∨ (T[g]? = some (.suspended k l c p fs cl) ∧ ng fs = true ∧ ∀ y, T0[g]? = some y → ¬ Begun y) := by
  rcases j.at_ g with ⟨x, _, _, h3⟩ | ⟨h1, h2, h3⟩
  · rw [h] at h3
    cases x with
    | suspended k l c p fs cl => cases h3; exact .inl rfl
    | _ => cases h3
  · exact .inr ⟨h1.trans h, h2 _ h, h3⟩
theorem no_unsupported {M : Model} {Γ : Ctx} {p : Pos} {w : String} {fs : List Frame} {s s' : Shared} {e : End} (h : Runs M Γ p (.unsupported w) fs s e s') : False := by
  generalize ht : (Sem.unsupported w : Sem PySem.Fin) = t at h
  induction h <;> first | (cases ht; done) | (subst ht; contradiction) | (subst ht; rename_i ih _; exact ih rfl) | (subst ht; rename_i ih _ _; exact ih rfl) | (subst ht; rename_i ih; exact ih rfl) | skip
  all_goals trace_state

theorem runs_bomb {M : Model} {Γ : Ctx} {p : Pos} {t : Sem PySem.Fin} {fs : List Frame} {s s' : Shared} {e : End} (h : Runs M Γ p t fs s e s') :
    ∀ T0 T : Array GenState, ng fs = true → J T0 T s.gens → CleanE e ∧ ∃ T', J T0 T' s'.gens ∧ Runs M Γ p t fs { s with gens := T } e { s' with gens := T' } := by
  induction h with
  | done => exact fun T0 T _ j => ⟨trivial, T, j, .done⟩
  | raise => exact fun T0 T _ j => ⟨trivial, T, j, .raise⟩
  | again hq _ ih => exact fun T0 T n j => let ⟨c, T', j', r⟩ := ih T0 T n j; ⟨c, T', j', .again hq r⟩
  | rule _ ih => exact fun T0 T n j => let ⟨c, T', j', r⟩ := ih T0 T n j; ⟨c, T', j', .rule r⟩
  | «at» _ ih => exact fun T0 T n j => let ⟨c, T', j', r⟩ := ih T0 T n j; ⟨c, T', j', .at r⟩
  | load ha _ ih => exact fun T0 T n j => let ⟨c, T', j', r⟩ := ih T0 T n j; ⟨c, T', j', .load ha r⟩
  | update ha _ ih => exact fun T0 T n j => let ⟨c, T', j', r⟩ := ih T0 T n j; ⟨c, T', j', .update ha r⟩
  | loadIfAlive _ ih => exact fun T0 T n j => let ⟨c, T', j', r⟩ := ih T0 T n j; ⟨c, T', j', .loadIfAlive r⟩
  | point _ ih => exact fun T0 T n j => let ⟨c, T', j', r⟩ := ih T0 T n j; ⟨c, T', j', .point r⟩
  | alloc _ ih => exact fun T0 T n j => let ⟨c, T', j', r⟩ := ih T0 T n j; ⟨c, T', j', .alloc r⟩
  | fresh _ ih => exact fun T0 T n j => let ⟨c, T', j', r⟩ := ih T0 T n j; ⟨c, T', j', .fresh r⟩
  | ask _ ih => exact fun T0 T n j => let ⟨c, T', j', r⟩ := ih T0 T n j; ⟨c, T', j', .ask r⟩
  | choose hn _ ih => exact fun T0 T n j => let ⟨c, T', j', r⟩ := ih T0 T n j; ⟨c, T', j', .choose hn r⟩
  | os _ ih => exact fun T0 T n j => let ⟨c, T', j', r⟩ := ih T0 T n j; ⟨c, T', j', .os r⟩
  | handled _ ih => exact fun T0 T n j => let ⟨c, T', j', r⟩ := ih T0 T n j; ⟨c, T', j', .handled r⟩
  | genState hg _ ih =>
    intro T0 T n j
    obtain ⟨x, hx, e⟩ := j.seen hg
    obtain ⟨c, T', j', r⟩ := ih T0 T n j
    exact ⟨c, T', j', .genState (st := x) hx (by rw [e]; exact r)⟩
  | stack _ ih => exact fun T0 T n j => let ⟨c, T', j', r⟩ := ih T0 T n j; ⟨c, T', j', .stack r⟩
  | thread _ ih => exact fun T0 T n j => let ⟨c, T', j', r⟩ := ih T0 T n j; ⟨c, T', j', .thread r⟩
  | newGen _ ih =>
    intro T0 T n j
    obtain ⟨c, T', j', r⟩ := ih T0 _ n (j.push (by exact trivial))
    refine ⟨c, T', j', .newGen ?_⟩
    dsimp only
    rw [j.size]; exact r
  | call _ _ ih1 ih2 =>
    intro T0 T n j
    obtain ⟨_, T1, j1, r1⟩ := ih1 T0 T n j
    obtain ⟨c, T2, j2, r2⟩ := ih2 T0 T1 n j1
    exact ⟨c, T2, j2, .call r1 r2⟩
  | callSusp _ ih1 =>
    intro T0 T n j
    obtain ⟨c, T1, j1, r1⟩ := ih1 T0 T n j
    exact ⟨ng_append _ _ c rfl, T1, j1, .callSusp r1⟩
  | yield => exact fun T0 T _ j => ⟨rfl, T, j, .yield⟩
  | resumeFresh hg _ hq _ ih1 ih2 =>
    intro T0 T n j
    obtain ⟨h1, h2⟩ := j.fresh hg
    obtain ⟨c, T1, j1, r1⟩ := ih1 T0 _ n (j.set (x := .running) trivial h2)
    obtain ⟨c2, T2, j2, r2⟩ := ih2 T0 _ n (j1.set c.gs h2)
    exact ⟨c2, T2, j2, .resumeFresh h1 r1 hq r2⟩
  | resumeSuspended hg hr hq _ ih1 ih2 =>
    intro T0 T n j
    rcases j.susp hg with rfl | ⟨h1, h2, h3⟩
    · exact (no_unsupported hr).elim
    · obtain ⟨c, T1, j1, r1⟩ := ih1 T0 _ h2 (j.set (x := .running) trivial h3)
      obtain ⟨c2, T2, j2, r2⟩ := ih2 T0 _ n (j1.set c.gs h3)
      exact ⟨c2, T2, j2, .resumeSuspended h1 r1 hq r2⟩
  | resumeJustStarted hg hv _ ih =>
    intro T0 T n j
    obtain ⟨c, T', j', r⟩ := ih T0 T n j
    exact ⟨c, T', j', .resumeJustStarted (j.fresh hg).1 hv r⟩
  | resumeThrowFresh hg _ ih =>
    intro T0 T n j
    obtain ⟨h1, h2⟩ := j.fresh hg
    obtain ⟨c, T', j', r⟩ := ih T0 _ n (j.set (x := .finished) trivial h2)
    exact ⟨c, T', j', .resumeThrowFresh h1 r⟩
  | resumeRunning hg _ ih =>
    intro T0 T n j
    obtain ⟨c, T', j', r⟩ := ih T0 T n j
    exact ⟨c, T', j', .resumeRunning (j.plain hg fun _ _ _ _ _ _ z => nomatch z) r⟩
  | resumeFinished hg _ ih =>
    intro T0 T n j
    obtain ⟨c, T', j', r⟩ := ih T0 T n j
    exact ⟨c, T', j', .resumeFinished (j.plain hg fun _ _ _ _ _ _ z => nomatch z) r⟩
  | segRet _ _ ih1 ih2 =>
    intro T0 T n j
    obtain ⟨_, T1, j1, r1⟩ := ih1 T0 T rfl j
    obtain ⟨c, T2, j2, r2⟩ := ih2 T0 T1 n j1
    exact ⟨c, T2, j2, .segRet r1 r2⟩
  | segGen => exact fun _ _ n => nomatch n
  | segSuspOut hs _ ih =>
    intro T0 T n j
    obtain ⟨c, T1, j1, r1⟩ := ih T0 T rfl j
    exact ⟨ng_append _ _ c n, T1, j1, .segSuspOut hs r1⟩
  | segSuspGen hs =>
    intro T0 T n j
    rw [ng_split n] at hs; cases hs

theorem wakes_bomb {M : Model} {Γ : Ctx} {p : Pos} {g : Nat} {r : Resume} {s s' : Shared} {res : GenResult} (h : Wakes M Γ p g r s res s') (T0 T : Array GenState) (j : J T0 T s.gens) :
    ∃ T', J T0 T' s'.gens ∧ Wakes M Γ p g r { s with gens := T } res { s' with gens := T' } := by
  unfold Wakes at h ⊢
  cases hg : s.gens[g]? with
  | none => rw [hg] at h; exact h.elim
  | some st =>
    rw [hg] at h
    cases st with
    | fresh c =>
      obtain ⟨h1, h2⟩ := j.fresh hg
      dsimp only at h ⊢
      rw [h1]
      split at h
      · obtain ⟨e₁, s₁, hr, hq, h3, rfl⟩ := h
        obtain ⟨c, T1, j1, r1⟩ := runs_bomb hr T0 _ rfl (j.set (x := .running) trivial h2)
        exact ⟨_, j1.set c.gs h2, e₁, { s₁ with gens := T1 }, r1, hq, h3, rfl⟩
      · obtain ⟨h3, rfl⟩ := h
        exact ⟨T, j, h3, rfl⟩
      · obtain ⟨h3, rfl⟩ := h
        exact ⟨_, j.set (x := .finished) trivial h2, h3, rfl⟩
    | suspended k l c p0 fs cl =>
      obtain ⟨e₁, s₁, hr, hq, h3, rfl⟩ := h
      rcases j.susp hg with rfl | ⟨h1, h2, h4⟩
      · exact (no_unsupported hr).elim
      · obtain ⟨c, T1, j1, r1⟩ := runs_bomb hr T0 _ h2 (j.set (x := .running) trivial h4)
        refine ⟨_, j1.set c.gs h4, ?_⟩
        dsimp only
        rw [h1]
        exact ⟨e₁, { s₁ with gens := T1 }, r1, hq, h3, rfl⟩
    | running =>
      obtain ⟨h3, rfl⟩ := h
      refine ⟨T, j, ?_⟩
      dsimp only
      rw [j.plain hg fun _ _ _ _ _ _ z => nomatch z]
      exact ⟨h3, rfl⟩
    | finished =>
      obtain ⟨h3, rfl⟩ := h
      refine ⟨T, j, ?_⟩
      dsimp only
      rw [j.plain hg fun _ _ _ _ _ _ z => nomatch z]
      exact ⟨h3, rfl⟩

/-- the real state behind s', its table T -/
abbrev re (s : Shared) (T : Array GenState) : Shared := { s with gens := T }
theorem wp_bomb {α : Type} (M : Model) (Γ : Ctx) (T0 : Array GenState) (t : Sem α) : ∀ (Q : α → Pos → Shared → Prop) (E : Value → Pos → Shared → Prop) (p : Pos) (s : Shared) (T : Array GenState), J T0 T s.gens → wp M Γ t Q E p s →
    wp M Γ t (fun a p' r => ∃ s' T', r = re s' T' ∧ J T0 T' s'.gens ∧ Q a p' s') (fun x p' r => ∃ s' T', r = re s' T' ∧ J T0 T' s'.gens ∧ E x p' s') p (re s T) := by
  induction t with
  | pure a => intro Q E p s T j h; exact ⟨s, T, rfl, j, h⟩
  | raise e => intro Q E p s T j h; exact ⟨s, T, rfl, j, h⟩
  | unsupported _ => intro Q E p s T _ h; exact h
  | finish _ => intro Q E p s T _ h; exact h
  | rule _ k ih => intro Q E p s T j h; exact ih () Q E p s T j h
  | «at» p' k ih => intro Q E p s T j h; exact ih () Q E p' s T j h
  | load a _ k ih => intro Q E p s T j h; obtain ⟨o, ho, h⟩ := h; exact ⟨o, ho, ih o Q E p s T j h⟩
  | update a _ f k ih => intro Q E p s T j h; exact ⟨h.1, ih () Q E p { s with heap := s.heap.update a f } T j h.2⟩
  | loadIfAlive a k ih => intro Q E p s T j h; exact ih _ Q E p s T j h
  | point _ k ih => intro Q E p s T j h; exact ih () Q E p s T j h
  | register _ _ => intro Q E p s T _ h; exact h
  | alloc o k ih => intro Q E p s T j h; exact ih _ Q E p { s with heap := s.heap.push o } T j h
  | fresh k ih => intro Q E p s T j h; exact ih _ Q E p { s with toks := s.toks + 1 } T j h
  | ask k ih => intro Q E p s T j h; exact ih _ Q E p s T j h
  | choose src m k ih => intro Q E p s T j h; exact ⟨h.1, ih _ Q E p { s with drawn := s.drawn.bump src } T j h.2⟩
  | os q _ k ih => intro Q E p s T j h; exact ih _ Q E p { s with os := (Os.step s.os q).1 } T j h
  | call c hd _ _ k ih =>
    intro Q E p s T j h
    obtain ⟨r, s', hr, h⟩ := h
    obtain ⟨_, T1, j1, r1⟩ := runs_bomb hr T0 T rfl j
    exact ⟨r, re s' T1, r1, ih r Q E p s' T1 j1 h⟩
  | handled own k ih => intro Q E p s T j h; exact ih _ Q E p s T j h
  | genState g k ih =>
    intro Q E p s T j h
    obtain ⟨st, hs, h⟩ := h
    obtain ⟨x, hx, e⟩ := j.seen hs
    exact ⟨x, hx, by rw [e]; exact ih _ Q E p s T j h⟩
  | newGen c k ih =>
    intro Q E p s T j h
    have r := ih _ Q E p { s with gens := s.gens.push (.fresh c) } (T.push (.fresh c)) (j.push (x := .fresh c) trivial) h
    show wp M Γ (k T.size) _ _ p _
    rw [j.size]; exact r
  | resume g r _ k ih =>
    intro Q E p s T j h
    obtain ⟨res, s', hw, h⟩ := h
    obtain ⟨T1, j1, r1⟩ := wakes_bomb hw T0 T j
    exact ⟨res, re s' T1, r1, ih res Q E p s' T1 j1 h⟩
  | yield _ _ _ _ => intro Q E p s T _ h; exact h
  | stack k ih => intro Q E p s T j h; exact ih _ Q E p s T j h
  | fork _ _ => intro Q E p s T _ h; exact h
  | thread k ih => intro Q E p s T j h; exact ih _ Q E p s T j h
  | await _ _ _ _ _ => intro Q E p s T _ h; exact h

/-- THE RULE: shown of the state with bombs, it holds of the real one, and what had begun stands as it stood -/
theorem wpAny_bomb {α : Type} {M : Model} {A : Around} {t : Sem α} {Q Q' : α → Shared → Prop} {E E' : Value → Shared → Prop} {s : Shared} (h : wpAny M A t Q E (re s (s.gens.map bomb)))
    (hQ : ∀ a s' T', J s.gens T' s'.gens → Q a s' → Q' a (re s' T')) (hE : ∀ a s' T', J s.gens T' s'.gens → E a s' → E' a (re s' T')) : wpAny M A t Q' E' s := by
  intro Γ p hΓ
  refine Sem.wp_mono M Γ t (fun a p' r q => ?_) (fun a p' r q => ?_) p s (wp_bomb M Γ s.gens t _ _ p (re s (s.gens.map bomb)) s.gens (J.start s.gens) (h Γ p hΓ))
  · obtain ⟨s', T', rfl, j, q⟩ := q; exact hQ a s' T' j q
  · obtain ⟨s', T', rfl, j, q⟩ := q; exact hE a s' T' j q
end NwB
end
section
/-! Steps of the machine, with the yields of «yield from» that sleep over a generator allowed: such a yield is a plain step while nothing is registered. -/
namespace NwM
open PySem
/-- a yield of «yield from» that sleeps over a generator -/
structure OkY (s : Shared) (t : Thread) : Prop where
  ex : ∃ v l k a rest kw fs b r, t.cur = .yield v true l k ∧ t.code = .builtin "proto.yield_from" ⟨.ref a :: rest, kw⟩ ∧ splitAtGen t.stack = some (fs, b, r) ∧ fs.any Frame.guarded = false ∧ ∃ o n, s.heap.get? a = some o ∧ o.genNumber? = some n
theorem OkY.same {s s' : Shared} {t t' : Thread} (hs : s'.forget = s.forget) (ht : t'.forget = t.forget) (h : OkY s t) : OkY s' t' := by
  obtain ⟨v, l, k, a, rest, kw, fs, b, r, h1, h2, h3, h4, o, n, h5, h6⟩ := h.ex
  obtain ⟨cur, code, pos, stack⟩ := t
  obtain ⟨cur', code', pos', stack'⟩ := t'
  simp only [Thread.forget, Thread.mk.injEq] at ht
  obtain ⟨rfl, rfl, rfl, e⟩ := ht
  have e2 : splitAtGen (forgetAll stack') = splitAtGen (forgetAll stack) := by rw [e]
  rw [splitAtGen_forgetAll, splitAtGen_forgetAll, h3] at e2
  cases hq : splitAtGen stack' with
  | none => rw [hq] at e2; cases e2
  | some x =>
    obtain ⟨fs', b', r'⟩ := x
    rw [hq] at e2
    simp only [Option.map_some, Option.some.injEq, Prod.mk.injEq] at e2
    refine ⟨v, l, k, a, rest, kw, fs', b', r', h1, h2, hq, ?_, o, n, by rw [(Shared.forget_eq hs).1]; exact h5, h6⟩
    rw [← any_guarded_forgetAll, e2.1, any_guarded_forgetAll]; exact h4
theorem okY_life {den : Code → Sem PySem.Fin} {prog : Program} {w : World} {s : Shared} {t : Thread} (hz : s.asleep) (h : OkY s t) (others : List Value) : lifeStep den prog w others s t = step den prog w s t := by
  obtain ⟨hr, hc⟩ := hz
  obtain ⟨v, l, k, a, rest, kw, fs, b, r, h1, h2, h3, h4, o, n, h5, h6⟩ := h.ex
  obtain ⟨cur, code, pos, stack⟩ := t
  simp only at h1 h2 h3
  subst h1 h2
  have hsp : Thread.special ⟨.yield v true l k, .builtin "proto.yield_from" ⟨.ref a :: rest, kw⟩, pos, stack⟩ = true := by
    simp [Thread.special, Thread.yieldsInsideHandler]
  have hct : collectorTurn? w.params others s ⟨.yield v true l k, .builtin "proto.yield_from" ⟨.ref a :: rest, kw⟩, pos, stack⟩ = none := rfl
  have hsh : closingShows s fs (.builtin "proto.yield_from" ⟨.ref a :: rest, kw⟩) true = false := by
    simp [closingShows, h4, delegateShows, h5, h6, hr]
  unfold lifeStep
  rw [if_pos hsp]
  simp only [hct, h3, hsh, Bool.false_and, Bool.false_eq_true, if_false, Thread.atItsEnd]
  simp [stepCounting, hc]
theorem okY_moves {s : Shared} {t : Thread} (h : OkY s t) (pr : Profile) : (Config.single s t).moves pr = [.run 0] := by
  obtain ⟨v, l, k, a, rest, kw, fs, b, r, h1, h2, _⟩ := h.ex
  obtain ⟨cur, code, pos, stack⟩ := t
  simp only at h1 h2
  subst h1 h2
  simp [Config.moves, Config.single, movesFrom, Thread.moves, Thread.atomic, Thread.rests, Thread.tells]
theorem okY_sstep {den : Code → Sem PySem.Fin} {prog : Program} {w : World} {s : Shared} {t : Thread} (hz : s.asleep) (h : OkY s t) : sstep den prog w (.single s t) = (step den prog w s t).lift := by
  have hl := fun others => okY_life (den := den) (prog := prog) (w := w) hz h others
  have hp : (Config.single s t).pick w = .ok (.run 0, .single s t) := by
    have h1 : (Config.single s t).collect? w.params = none := by
      simp [Config.collect?, Config.single, (nothing_to_collect _ _ _ s t hz.1).1]
    have h2 : (Config.single s t).collectable = [] := by
      simp [Config.collectable, Config.single, (nothing_to_collect w.params _ _ s t hz.1).2]
    simp only [Config.pick, h1, h2, Config.pickThread, okY_moves h]
    cases w.params.lifetimes <;> simp
  have hr : (Config.single s t).run den prog w 0 = (step den prog w s t).lift := by
    obtain ⟨v, l, k, a, rest, kw, fs, b, r, h1, h2, _⟩ := h.ex
    obtain ⟨cur, code, pos, stack⟩ := t
    simp only at h1 h2
    subst h1 h2
    simp only [Config.run, Config.single]
    simp [hl, others_single, frozenBadly, ThreadState.insideWrite, Thread.finalizes]
    split <;> simp_all [Step.lift, Config.single]
    all_goals (try (split <;> simp_all))
  simp only [sstep, hp, Config.move, hr]

/-- steps -/
inductive GoS (M : Model) : Shared → Thread → Shared → Thread → Prop
  | refl {s t} : GoS M s t s t
  | step {s t s₁ t₁ s' t'} : (t.loud = false ∨ OkY s t) → stepK M.den M.prog M.w s t = .go s₁ t₁ → GoS M s₁ t₁ s' t' → GoS M s t s' t'
theorem GoS.trans {M : Model} {s t s₁ t₁ s₂ t₂} (a : GoS M s t s₁ t₁) (b : GoS M s₁ t₁ s₂ t₂) : GoS M s t s₂ t₂ := by
  induction a with
  | refl => exact b
  | step h1 h2 _ ih => exact .step h1 h2 (ih b)
theorem forget_loud {t t' : Thread} (h : t'.forget = t.forget) : t'.calm = t.calm := by
  rw [← Thread.calm_forget t', h, Thread.calm_forget]
/-- THE END: steps to a leaf with an empty stack are a run of the real machine -/
theorem GoS.real {M : Model} {s t s' t'} (h : GoS M s t s' t') : ∀ (r : Result) (c : Code) (p : Pos), t' = ⟨leafOf r, c, p, []⟩ → leftWithCleanup s'.gens = false →
    ∀ (sR : Shared) (tR : Thread), sR.asleep → sR.forget = s.forget → tR.forget = t.forget →
      ∃ n s'', schedN M.den M.prog M.w n (.single sR tR) = .halted (outcomeOf r) s'' ∧ s''.forget = s'.forget ∧ s''.heap.life = sR.heap.life := by
  induction h with
  | @refl s t =>
    intro r c p e hl sR tR hz hs ht
    subst e
    obtain ⟨cur, code, pos, stack⟩ := tR
    simp only [Thread.forget, Thread.mk.injEq, forgetAll_nil] at ht
    obtain ⟨rfl, rfl, rfl, e4⟩ := ht
    have e5 : stack = [] := by
      cases stack with
      | nil => rfl
      | cons f fs => cases e4
    subst e5
    have hlR : leftWithCleanup sR.gens = false := (leftWithCleanup_of_forget_eq hs).trans hl
    have hstep : PySem.step M.den M.prog M.w sR ⟨leafOf r, code, pos, []⟩ = .halt (outcomeOf r) sR := by
      cases r <;> simp [leafOf, PySem.step, finish, hlR, outcomeOf]
    have hcalm : Thread.calm ⟨leafOf r, code, pos, []⟩ = true := by cases r <;> rfl
    refine ⟨1, sR, ?_, hs, rfl⟩
    rcases sstep_single M.den M.prog M.w sR ⟨leafOf r, code, pos, []⟩ hcalm hz with e | e
    · simp only [schedN, e, hstep, Step.lift]
    · rw [hstep] at e
      injection e with e1 _
      exact absurd e1 (by cases r <;> exact fun z => nomatch z)
  | @step s t s₁ t₁ s' t' hq hk hg ih =>
    intro r c p e hl sR tR hz hs ht
    have hsame := (stepK_forget M.den M.prog M.w s t).trans (step_same M.den M.prog M.w hs.symm ht.symm)
    rw [hk] at hsame
    cases hR : PySem.step M.den M.prog M.w sR tR with
    | halt o s2 => rw [hR] at hsame; cases hsame
    | go s₁R t₁R =>
      rw [hR] at hsame
      simp only [Step.forget] at hsame
      injection hsame with e1 e2
      have hz1 : s₁R.asleep := by
        have := step_life M.den M.prog M.w sR s₁R tR t₁R hR
        exact Shared.asleep_of_life this hz
      obtain ⟨n, s'', h1, h2, h3⟩ := ih r c p e hl s₁R t₁R hz1 e1.symm e2.symm
      have hss : sstep M.den M.prog M.w (.single sR tR) = (PySem.step M.den M.prog M.w sR tR).lift := by
        rcases hq with hq | hq
        · have hc : tR.calm = true := by
            rw [forget_loud ht, Thread.calm_eq, hq]
            cases hrf : t.refused with
            | false => rfl
            | true =>
              obtain ⟨what, e⟩ := stepK_refused M.den M.prog M.w (s := s) hrf
              rw [hk] at e; cases e
          rcases sstep_single M.den M.prog M.w sR tR hc hz with e | e
          · exact e
          · rw [hR] at e; cases e
        · exact okY_sstep hz (OkY.same hs ht hq)
      refine ⟨n + 1, s'', ?_, h2, h3.trans (step_life M.den M.prog M.w sR s₁R tR t₁R hR)⟩
      simp only [schedN, hss, hR, Step.lift]
      exact h1
end NwM
end
section
/-! A logic over these steps, of the same shape as wpAny, codeAny; what is shown of wpAny holds in it. -/
namespace NwM
open PySem
open Sem (wp)
abbrev Post := Shared → Thread → Prop
def Gs (M : Model) (Φ : Post) (s : Shared) (t : Thread) : Prop := ∃ s' t', GoS M s t s' t' ∧ Φ s' t'
section
variable {M : Model} {Φ : Post} {s s₁ : Shared} {t t₁ : Thread}
theorem Gs.here (h : Φ s t) : Gs M Φ s t := ⟨s, t, .refl, h⟩
theorem Gs.go (a : GoS M s t s₁ t₁) (h : Gs M Φ s₁ t₁) : Gs M Φ s t := let ⟨s', t', b, q⟩ := h; ⟨s', t', a.trans b, q⟩
theorem goS_of {h : M.step s t = .go s₁ t₁} : GoS M s t s₁ t₁ := by
  cases hl : t.loud with
  | true => rw [M.step_loud hl] at h; cases h
  | false => rw [M.step_quiet hl] at h; exact .step (.inl hl) h .refl
theorem Gs.step (h : M.step s t = .go s₁ t₁) (k : Gs M Φ s₁ t₁) : Gs M Φ s t := Gs.go (goS_of (h := h)) k
end
theorem reach_goS {M : Model} {base : List Frame} {s t c p pre s' e} (h : Reach M base s t c p pre s' e) :
    ∃ t' c' p' pre', GoS M s ⟨t, c, p, pre ++ base⟩ s' ⟨t', c', p', pre' ++ base⟩ ∧ Exits e t' c' p' pre' := by
  induction h with
  | exit hx => exact ⟨_, _, _, _, .refl, hx⟩
  | step hs _ ih =>
    obtain ⟨t', c', p', pre', hn, hx⟩ := ih
    exact ⟨t', c', p', pre', (goS_of (h := hs)).trans hn, hx⟩
theorem runs_goS {M : Model} {Γ : Ctx} {p : Pos} {t : Sem PySem.Fin} {fs : List Frame} {s s' : Shared} {e : End} {base : List Frame} (h : Runs M Γ p t fs s e s') (f : Γ.Fits base) :
    ∃ t' c' p' pre', GoS M s ⟨t, Γ.code, p, fs ++ base⟩ s' ⟨t', c', p', pre' ++ base⟩ ∧ Exits e t' c' p' pre' := reach_goS (runs_reach h base f)

/-- what a resumed generator does, a piece of a Runs -/
theorem wakes_goS {M : Model} {c : Code} {st : List Frame} {p : Pos} {g : Nat} {r : Resume} {l : List Value} {k : GenResult → Sem PySem.Fin} {s s' : Shared} {res : GenResult} (h : Wakes M (Ctx.of c st) p g r s res s') :
    GoS M s ⟨.resume g r l k, c, p, st⟩ s' ⟨k res, c, p, st⟩ := by
  unfold Wakes at h
  have fin : ∀ {c0 : Code} {p0 : Pos} {t0 : Sem PySem.Fin} {fs : List Frame} {e₁ : End} {s₁ : Shared}, Runs M ((Ctx.of c st).wake c0 p) p0 t0 fs (s.setGen g .running) e₁ s₁ → e₁.quiet = true →
      GoS M (s.setGen g .running) ⟨t0, c0, p0, fs ++ .gen g k l c p :: st⟩ (s₁.setGen g e₁.genState) ⟨k e₁.result, c, p, st⟩ := fun {c0 p0 t0 fs e₁ s₁} hr hq => by
    obtain ⟨t', c', p', pre', hg, hx⟩ := runs_goS hr ((Ctx.fits_of c st).wake c0 g k l p)
    exact hg.trans (goS_of (h := step_exit_gen _ _ _ _ _ _ _ hx hq))
  cases hg : s.gens[g]? with
  | none => rw [hg] at h; exact h.elim
  | some x =>
    rw [hg] at h
    cases x with
    | fresh c0 =>
      dsimp only at h
      split at h
      · obtain ⟨e₁, s₁, hr, hq, rfl, rfl⟩ := h
        exact (goS_of (h := step_resume_fresh _ _ _ _ _ _ _ hg)).trans (fin (fs := []) hr hq)
      · rename_i v hv
        obtain ⟨rfl, rfl⟩ := h
        exact goS_of (h := step_resume_justStarted _ _ _ _ _ _ _ hg fun z => hv (by rw [z]))
      · obtain ⟨rfl, rfl⟩ := h
        exact goS_of (h := step_resume_throwFresh _ _ _ _ _ _ _ _ hg)
    | suspended k0 l0 c0 p0 fs cl =>
      obtain ⟨e₁, s₁, hr, hq, rfl, rfl⟩ := h
      exact (goS_of (h := step_resume_suspended _ _ _ _ _ _ _ _ hg)).trans (fin hr hq)
    | running =>
      obtain ⟨rfl, rfl⟩ := h
      exact goS_of (h := step_resume_running _ _ _ _ _ _ _ _ hg)
    | finished =>
      obtain ⟨rfl, rfl⟩ := h
      exact goS_of (h := step_resume_finished _ _ _ _ _ _ _ _ hg)

theorem gs_wrap_wp {α : Type} {M : Model} {Φ : Post} {c : Code} {st : List Frame} (K : α → Sem PySem.Fin) (H : Value → Sem PySem.Fin) (gd : Bool → Bool) (lv : List Value → List Value) (m : Sem α) :
    ∀ {Q : α → Pos → Shared → Prop} {E : Value → Pos → Shared → Prop} {p : Pos} {s : Shared}, wp M (Ctx.of c st) m Q E p s →
      (∀ a p' s', Q a p' s' → Gs M Φ s' ⟨K a, c, p', st⟩) → (∀ x p' s', E x p' s' → Gs M Φ s' ⟨H x, c, p', st⟩) → Gs M Φ s ⟨m.wrap K H gd lv, c, p, st⟩ := by
  induction m with
  | pure a => intro Q E p s h hQ _; exact hQ a p s h
  | raise x => intro Q E p s h _ hE; exact hE x p s h
  | unsupported what => intro Q E p s h; exact h.elim
  | finish x => intro Q E p s h; exact h.elim
  | register a k => intro Q E p s h; exact h.elim
  | yield v g l k => intro Q E p s h; exact h.elim
  | fork c k => intro Q E p s h; exact h.elim
  | await a f d l k => intro Q E p s h; exact h.elim
  | rule tag k ih => intro Q E p s h hQ hE; exact .step (step_rule ..) (ih () h hQ hE)
  | «at» p' k ih => intro Q E p s h hQ hE; exact .step (step_at ..) (ih () h hQ hE)
  | load a part k ih => intro Q E p s h hQ hE; obtain ⟨o, ho, h⟩ := h; exact .step (step_load _ _ _ _ _ _ _ ho) (ih o h hQ hE)
  | update a part f k ih => intro Q E p s h hQ hE; obtain ⟨ha, h⟩ := h; exact .step (step_update _ _ _ _ _ _ _ _ ha) (ih () h hQ hE)
  | alloc o k ih => intro Q E p s h hQ hE; exact .step (step_alloc ..) (ih _ h hQ hE)
  | loadIfAlive a k ih => intro Q E p s h hQ hE; exact .step (step_loadIfAlive ..) (ih _ h hQ hE)
  | point l k ih => intro Q E p s h hQ hE; exact .step (step_point ..) (ih () h hQ hE)
  | fresh k ih => intro Q E p s h hQ hE; exact .step (step_fresh ..) (ih _ h hQ hE)
  | ask k ih => intro Q E p s h hQ hE; exact .step (step_ask ..) (ih _ h hQ hE)
  | choose src n k ih => intro Q E p s h hQ hE; obtain ⟨hn, h⟩ := h; exact .step (step_choose _ _ _ _ _ _ _ hn) (ih _ h hQ hE)
  | os q l k ih => intro Q E p s h hQ hE; exact .step (step_os ..) (ih _ h hQ hE)
  | call c' h g l k ih =>
    intro Q E p s hw hQ hE
    obtain ⟨r, s₁, hret, hw⟩ := hw
    refine .step (step_call ..) ?_
    obtain ⟨t', c'', p', pre', hg, hx⟩ := runs_goS hret ((Ctx.fits_of c st).enter c' (fun x => (k x).wrap K H gd lv) h (gd g) (lv l) p [])
    obtain ⟨rfl, rfl⟩ := hx
    refine Gs.go hg ?_
    exact .step (step_leaf_ret ..) (ih r hw hQ hE)
  | handled own k ih =>
    intro Q E p s h hQ hE
    refine .step (step_handled ..) (ih _ ?_ hQ hE)
    cases own <;> exact h
  | newGen c k ih => intro Q E p s h hQ hE; exact .step (step_newGen ..) (ih _ h hQ hE)
  | genState g k ih => intro Q E p s h hQ hE; obtain ⟨x, hg, h⟩ := h; exact .step (step_genState _ _ _ _ _ _ hg) (ih _ h hQ hE)
  | resume g r l k ih => intro Q E p s h hQ hE; obtain ⟨res, s₁, hwk, h⟩ := h; exact Gs.go (wakes_goS hwk) (ih res h hQ hE)
  | stack k ih => intro Q E p s h hQ hE; exact .step (step_stack ..) (ih _ h hQ hE)
  | thread k ih => intro Q E p s h hQ hE; exact .step (step_thread ..) (ih _ h hQ hE)

/-! ### the logic -/
def wpG {α : Type} (M : Model) (A : Around) (m : Sem α) (Q : α → Shared → Prop) (E : Value → Shared → Prop) (s : Shared) : Prop :=
  ∀ (c : Code) (st : List Frame), (Ctx.of c st).In A → ∀ (K : α → Sem PySem.Fin) (H : Value → Sem PySem.Fin) (gd : Bool → Bool) (lv : List Value → List Value) (p : Pos) (Φ : Post),
    (∀ a s' p', Q a s' → Gs M Φ s' ⟨K a, c, p', st⟩) → (∀ x s' p', E x s' → Gs M Φ s' ⟨H x, c, p', st⟩) → Gs M Φ s ⟨m.wrap K H gd lv, c, p, st⟩
def codeG (M : Model) (A : Around) (c : Code) (R : Result → Shared → Prop) (s : Shared) : Prop :=
  ∀ (st : List Frame), (Ctx.of c st).Below A → ∀ (p : Pos) (Φ : Post), (∀ r s' c' p', R r s' → Gs M Φ s' ⟨leafOf r, c', p', st⟩) → Gs M Φ s ⟨M.den c, c, p, st⟩
theorem ctx_enter (c c0 : Code) (k : Result → Sem PySem.Fin) (h : Option Value) (g : Bool) (l : List Value) (p : Pos) (kp : List Value) (st : List Frame) : Ctx.of c (.ret k h g l c0 p kp :: st) = (Ctx.of c0 st).enter c h p := by
  have a := Ctx.fits_of c (.ret k h g l c0 p kp :: st)
  have b := (Ctx.fits_of c0 st).enter c k h g l p kp
  have e1 := a.handled.trans b.handled.symm
  have e2 := a.own.trans b.own.symm
  have e3 := a.below.trans b.below.symm
  have e4 := a.past.trans b.past.symm
  show (⟨c, _, _, _, _⟩ : Ctx) = ⟨c, _, _, _, _⟩
  exact congr (congr (congr (congrArg (Ctx.mk c) e1) e2) e3) e4
theorem ctx_wake (c c0 : Code) (g : Nat) (k : GenResult → Sem PySem.Fin) (l : List Value) (p : Pos) (st : List Frame) : Ctx.of c (.gen g k l c0 p :: st) = (Ctx.of c0 st).wake c p := by
  have a := Ctx.fits_of c (.gen g k l c0 p :: st)
  have b := (Ctx.fits_of c0 st).wake c g k l p
  have e1 := a.handled.trans b.handled.symm
  have e2 := a.own.trans b.own.symm
  have e3 := a.below.trans b.below.symm
  have e4 := a.past.trans b.past.symm
  show (⟨c, _, _, _, _⟩ : Ctx) = ⟨c, _, _, _, _⟩
  exact congr (congr (congr (congrArg (Ctx.mk c) e1) e2) e3) e4
/-- a generator's code over its frame -/
theorem ctx_gen {A : Around} {c c0 : Code} {g : Nat} {k : GenResult → Sem PySem.Fin} {l : List Value} {p : Pos} {st fs : List Frame} (h : (Ctx.of c0 st).In A) : (Ctx.of c (fs ++ .gen g k l c0 p :: st)).In (A.over c fs) := by
  rw [Ctx.of_append, ctx_wake]
  exact (h.wake c p).over fs
section
variable {α β : Type} {M : Model} {A : Around} {E : Value → Shared → Prop} {s : Shared}
theorem wpG_of {m : Sem α} {Q : α → Shared → Prop} (h : wpAny M A m Q E s) : wpG M A m Q E s := fun c st hc K H gd lv p Φ hQ hE =>
  gs_wrap_wp K H gd lv m (h _ p hc) (fun a p' s' q => hQ a s' p' q) fun x p' s' q => hE x s' p' q
theorem wpG_pure {a : α} {Q : α → Shared → Prop} (h : Q a s) : wpG M A (pure a) Q E s := fun _ _ _ _ _ _ _ p _ hQ _ => hQ a s p h
theorem wpG_throw {e : Value} {Q : α → Shared → Prop} (h : E e s) : wpG M A (throw e : Sem α) Q E s := fun _ _ _ _ _ _ _ p _ _ hE => hE e s p h
theorem wpG_mono {t : Sem α} {Q Q' : α → Shared → Prop} {E' : Value → Shared → Prop} (h : wpG M A t Q E s) (hQ : ∀ a s, Q a s → Q' a s) (hE : ∀ e s, E e s → E' e s) : wpG M A t Q' E' s :=
  fun c st hc K H gd lv p Φ h1 h2 => h c st hc K H gd lv p Φ (fun a s' p' q => h1 a s' p' (hQ a s' q)) fun x s' p' q => h2 x s' p' (hE x s' q)
theorem wpG_bind {m : Sem α} {f : α → Sem β} {Q : β → Shared → Prop} (h : wpG M A m (fun a s' => wpG M A (f a) Q E s') E s) : wpG M A (m >>= f) Q E s := fun c st hc K H gd lv p Φ hQ hE => by
  rw [Sem.bind_eq_wrap', Sem.wrap_wrap]
  exact h c st hc _ _ _ _ p Φ (fun a s' p' q => q c st hc K H gd lv p' Φ hQ hE) hE
theorem wpG_onRaise {m : Sem α} {k : Value → Sem Unit} {Q : α → Shared → Prop} (h : wpG M A m Q (fun e s' => wpG M A (k e) (fun _ s'' => E e s'') E s') s) : wpG M A (m.onRaise k) Q E s := fun c st hc K H gd lv p Φ hQ hE => by
  rw [Sem.onRaise_eq_wrap, Sem.wrap_wrap]
  refine h c st hc _ _ _ _ p Φ hQ fun x s' p' q => ?_
  rw [Sem.bind_eq_wrap, Sem.wrap_wrap]
  exact q c st hc _ _ _ _ p' Φ (fun _ s'' p'' q' => hE x s'' p'' q') hE
theorem wpG_tryCatch {m : Sem α} {k : Value → Sem α} {Q : α → Shared → Prop} (h : wpG M A m Q (fun e s' => wpG M A (k e) Q E s') s) : wpG M A (tryCatch m k) Q E s := fun c st hc K H gd lv p Φ hQ hE => by
  show Gs M Φ s ⟨(m.tryCatch k).wrap K H gd lv, c, p, st⟩
  rw [Sem.tryCatch_eq_wrap, Sem.wrap_wrap]
  exact h c st hc _ _ _ _ p Φ hQ fun x s' p' q => q c st hc K H gd lv p' Φ hQ hE
theorem wpG_attempt {m : Sem α} {Q : Except Value α → Shared → Prop} (h : wpG M A m (fun a => Q (.ok a)) (fun e => Q (.error e)) s) : wpG M A m.attempt Q E s :=
  wpG_tryCatch (wpG_bind (wpG_mono h (fun _ _ q => wpG_pure q) fun _ _ q => wpG_pure q))
theorem wpG_holding {vs : List Value} {m : Sem α} {Q : α → Shared → Prop} (h : wpG M A m Q E s) : wpG M A (holding vs m) Q E s := by
  unfold holding
  split
  · exact h
  · intro c st hc K H gd lv p Φ hQ hE
    rw [Sem.keep_eq_wrap, Sem.wrap_wrap]
    exact h c st hc _ _ _ _ p Φ hQ hE
theorem wpG_of_in1 {t : Sem α} {Q : α → Shared → Prop} (h : wpG M A.in1 t Q E s) : wpG M A t Q E s :=
  fun c st hc => h c st ⟨hc.1, hc.2.1, hc.2.2.1, hc.2.2.2.1, Nat.le_succ_of_le hc.2.2.2.2⟩
theorem codeG_mono {c : Code} {R R' : Result → Shared → Prop} (h : codeG M A c R s) (hR : ∀ r s, R r s → R' r s) : codeG M A c R' s := fun st hb p Φ k => h st hb p Φ fun r s' c' p' q => k r s' c' p' (hR r s' q)
theorem codeG_of {c : Code} {R : Result → Shared → Prop} (h : codeAny M A c R s) : codeG M A c R s := fun st hb p Φ k => by
  obtain ⟨r, s', hr, q⟩ := h _ p rfl hb
  obtain ⟨t', c'', p', pre', hg, hx⟩ := runs_goS hr (Ctx.fits_of c st)
  obtain ⟨rfl, rfl⟩ := hx
  exact Gs.go hg (k r s' _ _ q)
theorem wpG_run {c : Code} {h : Option Value} {Q : Flow → Shared → Prop} (hc : codeG M (A.mark h) c (fun r s' => match r with | .ok f => Q f s' | .error e => E e s') s) (hnb : h ≠ some byPass := by intro x; cases x) : wpG M A (run c h) Q E s := by
  intro c0 st hin K H gd lv p Φ hQ hE
  refine .step (step_call ..) ?_
  refine hc _ ?_ p Φ fun r s' c' p' q => .step (step_leaf_ret ..) ?_
  · rw [ctx_enter]; exact hin.enter c h p hnb
  · cases r with
    | ok f => exact hQ f s' p q
    | error e => exact hE e s' p q
theorem wpG_runValue {c : Code} {Q : Value → Shared → Prop} (hc : codeG M A c (fun r s' => match r with | .ok (.ret v) => Q v s' | .ok _ => False | .error e => E e s') s) : wpG M A (runValue c) Q E s := by
  unfold runValue
  refine wpG_bind (wpG_run (h := none) (codeG_mono hc fun r s' q => ?_))
  cases r with
  | error e => exact q
  | ok f =>
    cases f with
    | ret v => exact wpG_pure q
    | _ => exact q.elim
theorem wpG_call {f : Value} {pos : List Value} {kw : List (Str × Value)} {Q : Value → Shared → Prop} (hc : codeG M A (.call f ⟨pos, kw⟩) (fun r s' => match r with | .ok (.ret v) => Q v s' | .ok _ => False | .error e => E e s') s) :
    wpG M A (call f pos kw) Q E s := wpG_runValue hc
theorem codeG_of_tree {c : Code} {R : Result → Shared → Prop} (h : wpG M (A.under c) (M.den c) (fun fin s' => match fin with | .done f => R (.ok f) s' | .again c' => c'.quiet = true ∧ codeG M A c' R s') (fun e s' => R (.error e) s') s) : codeG M A c R s := by
  intro st hb p Φ k
  have e : M.den c = (M.den c).wrap .pure .raise id id := by
    have e1 := Sem.bind_eq_wrap (M.den c) (Sem.pure : PySem.Fin → Sem PySem.Fin)
    rw [← e1]
    exact (show M.den c = (M.den c) >>= pure from (bind_pure _).symm)
  rw [e]
  refine h c st hb.in _ _ _ _ p Φ (fun fin s' p' q => ?_) fun x s' p' q => k (.error x) s' c p' q
  cases fin with
  | done f => exact k (.ok f) s' c p' q
  | again c' =>
    refine .step (step_again _ _ _ _ _ _ q.1) ?_
    exact q.2 st hb p' Φ k
end
end NwM
end
section
/-! From the logic over loud steps to the statement: the end of a law row whose call is told by codeG. -/
namespace NwM
open PySem PySem.W PySem.Calls PyProof.Rows
theorem thread_endsL {prog : Program} {w : World} {t : Sem PySem.Fin} {s : Shared} {R : Result → Shared → Prop} (hreg : s.asleep)
    (h : wpG (model prog w) callerA t (fun fin s' => ∃ f, fin = .done f ∧ R (.ok f) s' ∧ leftWithCleanup s'.gens = false) (fun e s' => R (.error e) s' ∧ leftWithCleanup s'.gens = false) s) :
    ∃ n r s' s'', schedN (denote table) prog w n (.single s ⟨t, .builtin "claim.caller" {}, default, []⟩) = .halted (outcomeOf r) s' ∧ s'.forget = s''.forget ∧ R r s'' ∧ s'.heap.life = s.heap.life := by
  have e : t = t.wrap .pure .raise id id := by
    rw [← Sem.bind_eq_wrap t (Sem.pure : PySem.Fin → Sem PySem.Fin)]
    exact (show t = t >>= pure from (bind_pure _).symm)
  have z := h (.builtin "claim.caller" {}) [] caller_in .pure .raise id id default (fun s' t' => ∃ r c p, t' = ⟨leafOf r, c, p, []⟩ ∧ R r s' ∧ leftWithCleanup s'.gens = false)
    (fun fin s' p' q => by obtain ⟨f, rfl, q1, q2⟩ := q; exact .here ⟨.ok f, _, p', rfl, q1, q2⟩) (fun x s' p' ⟨q1, q2⟩ => .here ⟨.error x, _, p', rfl, q1, q2⟩)
  rw [← e] at z
  obtain ⟨s', t', hg, r, c, p, et, q1, q2⟩ := z
  obtain ⟨n, s'', h1, h2, h3⟩ := GoS.real hg r c p et q2 s _ hreg rfl rfl
  exact ⟨n, r, s'', s', h1, h2, q1, h3⟩
theorem callFrom_L {c : ClaimW} {tree : List Value → Sem PySem.Fin} {w : World} {s : Shared} {free : Addr → Prop} {gens : Prop} {kept : Heap → Prop} (hz : s.asleep) (hgens : s.gens = #[])
    (hspec : ∀ args, c.pre args = true → WData.layableAll args = true → ∀ ord : List DictEntry → List DictEntry, (∀ l, (ord l).Perm l) →
      ∃ vs s₁, layAllW c.records (classAt s.heap) w.params ord args s = some (vs, s₁) ∧
        wpG (model c.prog w) callerA (tree vs) (fun fin s' => ∃ f, fin = .done f ∧ c.Ends s args vs s₁ (.ok f) s' ∧ s'.os = s.os ∧ AllBare s'.gens ∧ kept s'.heap)
          (fun e s' => c.Ends s args vs s₁ (.error e) s' ∧ s'.os = s.os ∧ AllBare s'.gens ∧ kept s'.heap) s₁) :
    c.CallFrom (fun vs => ⟨tree vs, .builtin "claim.caller" {}, default, []⟩) w free gens kept s := by
  intro args hpre hlay ord hord
  obtain ⟨vs, s₁, hlaid, hcode⟩ := hspec args hpre hlay ord hord
  have hal := layAllW_rest _ _ _ hlaid
  obtain ⟨k, r, s', s'', hsched, hfo, ⟨hcase, hos, hkp⟩, hlife⟩ := thread_endsL (prog := c.prog) (w := w) (t := tree vs) (s := s₁) (R := fun r s' => c.Ends s args vs s₁ r s' ∧ s'.os = s.os ∧ kept s'.heap)
    (Shared.asleep_of_life hal.2.2.2 hz)
    (wpG_mono hcode (by rintro fin s' ⟨f, e, h1, h2, h3, h4⟩; exact ⟨f, e, ⟨h1, h2, h4⟩, leftWithCleanup_false_of_bare h3⟩)
      (by rintro e s' ⟨h1, h2, h3, h4⟩; exact ⟨⟨h1, h2, h4⟩, leftWithCleanup_false_of_bare h3⟩))
  obtain ⟨eh, _, _, eo, _⟩ := Shared.forget_eq hfo
  have hcase := hcase.congr eh
  have hkp : kept s'.heap := by rw [eh]; exact hkp
  rw [← eo] at hos
  have hlife2 : s'.heap.life = s.heap.life := hlife.trans hal.2.2.2
  refine ⟨vs, s₁, hlaid, k, _, s', hsched, ?_, (fun _ i x hx => by rw [hgens] at hx; simp at hx), hkp, by rw [hlife2], Shared.rest_eq hos⟩
  rcases hcase with ⟨v, rfl, d1, d2, d3, d4, d5⟩ | ⟨e, ob, cls, rfl, d1, d2, d3, d4, d5⟩
  · exact .inl ⟨v, rfl, d1, d2, d3, fun b o y _ => d4 b o y, d5⟩
  · exact .inr ⟨e, ob, cls, rfl, d1, d2, d3, d4, fun b o y _ => d5 b o y⟩
/-- what the end leans on: the call's own -/
abbrev WalkL (q : Program) (loose : List PySem.Str) (XP : (PySem.Str → Option Value) → Heap → Prop) (YP : World → Heap → Prop) (r : RowW) (d : DefRec) (kwd : List (PySem.Str × PySem.Expr)) : Prop :=
  ∀ (w : World) (s₀ s₁ : Shared) (mg mb : PySem.Str → Option Value), Ground q loose r.records XP w s₀ mg mb s₁.heap → YP w s₁.heap → ∀ (a : Addr) (o : Obj) (pm cd doc dV kV : Value), s₁.heap.get? a = some o →
    o.data = .func { docDef d.name d.params d.body d.scope pm cd doc with defaults := dV, kwdefaults := kV } → s₁.heap.CodeRec cd d.name → Dflts mg s₁.heap d.params kwd dV kV → mg d.name = some (.ref a) → s₁.gens = #[] →
    ∀ (args : List WData) (vals : List Value) (as : List Addr), r.claim.pre args = true → WData.layableAll args = true → ReadsAllW r.records (classAt s₀.heap) s₁.heap vals args as → WellAll w.params s₁.heap vals args → (∀ a ∈ as, (a == sysModules) = false) →
      wpG (model r.prog w) callerA (PySem.call (.ref a) vals) (fun v s' => GoodWG r.claim (classAt s₀.heap) (ExcName.means s₀.heap) args s₁ (.ok (.ret v)) s')
        (fun e s' => GoodWG r.claim (classAt s₀.heap) (ExcName.means s₀.heap) args s₁ (.error e) s') s₁
theorem holds_L {r : OpenRow} {q : Program} {loose : List PySem.Str} {Xt : Shared → Bool} {XP : (PySem.Str → Option Value) → Heap → Prop} {α : Type} {Yf : Shared → α} {Ya : World → α} {YP : World → Heap → Prop} {d : DefRec} {kwd : List (PySem.Str × PySem.Expr)} {N : Nat}
    (left : LeftO r.prog q loose Xt Yf Ya N) (hY : ∀ w s, Yf s = Ya w → YP w s.heap) (hYk : ∀ w h h', YP w h → (∀ b o, h.get? b = some o → h'.get? b = some o) → YP w h')
    (hX : ∀ s, Xt s = true → XP (s.heap.nsMap mainGlobals) s.heap) (hXk : ∀ mg h h', XP mg h → (∀ b o, h.get? b = some o → h'.get? b = some o) → XP mg h')
    (hdef : defOf q r.name = some (d, kwd)) (hp : r.prog.theDef r.name = some (d.params, d.body, d.scope)) (hk : kwWritten? d.params.kwonlyargs d.params.kw_defaults = some kwd) (hRf : ∀ s, Xt s = true → RecFacts r.records s.heap) (hwr : (!r.writes || r.records.isEmpty) = true)
    (k1 : r.wellSaid = true) (ok : (chainsOk q && opensWell r.prog && (frees r.toRowW && r.within.isEmpty)) = true) (hb : r.prog.bare) (hw : r.toRowW.promised)
    (call : WalkL q loose XP YP r.toRowW d kwd) : r.Holds := by
  obtain ⟨ok, k5⟩ := Bool.and_eq_true_iff.mp ok
  obtain ⟨hch, o1⟩ := Bool.and_eq_true_iff.mp ok
  obtain ⟨k5, k6⟩ := Bool.and_eq_true_iff.mp k5
  obtain ⟨hsame, hu, ha, hap, hm⟩ := frees_parts k5
  refine ⟨k1, hw, ⟨⟨hb, o1, by show r.makers.map _ = []; rw [hm]; rfl⟩, hw.witness, fun w => ⟨(left.behind hX hch w).1, fun s' hs' => ?_⟩⟩⟩
  obtain ⟨s₀, hf, hg0, s, hT, hz, hgens, hg, G00, y⟩ := (left.behind (XP := fun mg h => XP mg h ∧ RecFacts r.records h) (fun s hs => ⟨hX s hs, hRf s hs⟩) hch w).2 s' hs'
  have G0 : Ground q loose [] XP w s (s.heap.nsMap mainGlobals) (s.heap.nsMap builtinsNs) s.heap := ⟨G00.T, G00.B, G00.D, G00.TE, G00.TD, G00.W, G00.X.1, G00.cls, G00.has, G00.apart, G00.once, G00.K⟩
  have RF := G00.X.2
  have hT' := hT
  refine ⟨s₀, hf, hg0, s, hT, fun n hn => ?_, RF.1, RF.2.1, ?_⟩
  · obtain rfl : n = r.name := by split at hn <;> simp_all
    exact pinned_of_view hg G0 hdef hp hk
  have hgens : s.gens = #[] := Array.eq_empty_of_size_eq_zero (beq_iff_eq.mp hgens)
  have G : Ground q loose r.records XP w s _ _ s.heap := RF.ground G0
  refine callFrom_L (c := r.toRowW.claim) (tree := fun vs => do match ← nsGet mainNs r.name with
      | some f => do ret (← PySem.call f vs)
      | none => unsupported "claim.caller:no-such-global") hz hgens fun args hpre hlay ord hord => ?_
  obtain ⟨⟨vs, s₁⟩, hlaid⟩ := Option.isSome_iff_exists.mp (layAllW_isSome (P := w.params) (ord := ord) G.has args r.args s (pre_splitW hpre).1)
  have keeps := layAllW_keeps _ _ _ hlaid
  have hal := layAllW_rest _ _ _ hlaid
  obtain ⟨as, hrd, hin, hold⟩ := reads_layAllW hord _ _ _ hlaid hlay s₁.heap (fun _ _ e => e)
  have L : Laid r.records w s s₁ args vs as := ⟨⟨ord, hord, hlaid⟩, hrd, hin, hold, keeps, hal.1.trans hgens, hal.2.2.1⟩
  have G₁ := G.keeps hXk keeps
  obtain ⟨a, o, pm, cd, doc, dV, kV, h1, h2, h3, h4, h5⟩ := G₁.fn hdef
  have h := call w s s₁ _ _ G₁ (hYk _ _ _ (hY w s y) keeps) a o pm cd doc dV kV h2 h3 h4 h5 (defOf_name hdef ▸ h1) L.gens args vs as hpre hlay L.reads L.well (L.low G.low)
  have hi := ident_freeW hu ha hap
  have hwi : r.toRowW.claim.within = [] := List.isEmpty_iff.mp k6
  refine ⟨vs, s₁, hlaid, ?_⟩
  have hq : wpG (model r.prog w) callerA (PySem.call (.ref a) vs) (fun v s' => (r.toRowW.claim.Ends s args vs s₁ (.ok (.ret v)) s' ∧ s'.os = s.os ∧ AllBare s'.gens ∧ (r.writes = true → namesKept r.prog r.keeps s.heap s'.heap ∧ ∀ x ∈ r.records, ∀ a, classAt s.heap x.1 = some a → recordClass s'.heap a x.1 (x.2.map (·.1)) = true)))
      (fun e s' => (r.toRowW.claim.Ends s args vs s₁ (.error e) s' ∧ s'.os = s.os ∧ AllBare s'.gens ∧ (r.writes = true → namesKept r.prog r.keeps s.heap s'.heap ∧ ∀ x ∈ r.records, ∀ a, classAt s.heap x.1 = some a → recordClass s'.heap a x.1 (x.2.map (·.1)) = true))) s₁ :=
    wpG_mono h (fun v s' g => have z := g.laid (c := r.toRowW.claim) hsame hwi hi L; ⟨z.1, z.2.1, z.2.2, fun q => ⟨namesKept_of hT' hg _ keeps g.2.1.old, noTable hwr q⟩⟩)
      fun e s' g => have z := g.laid (c := r.toRowW.claim) hsame hwi hi L; ⟨z.1, z.2.1, z.2.2, fun q => ⟨namesKept_of hT' hg _ keeps g.2.1.old, noTable hwr q⟩⟩
  refine wpG_bind (wpG_of (wpAny_nsGet G₁.T.g ?_))
  rw [h1]
  exact wpG_bind (wpG_mono hq (fun v s' z => wpG_pure ⟨_, rfl, z⟩) fun e s' z => z)
end NwM
end
section
/-! One turn of a generator, whoever wakes it: from its code to its next yield (Y) or to its end (R). -/
namespace NwM
open PySem
def GenG (M : Model) (A : Around) (g : Nat) (Y : Value → GenState → Shared → Prop) (R : Shared → Prop) (c : Code) (t : Sem PySem.Fin) (fs : List Frame) (s : Shared) : Prop :=
  ∀ (c0 : Code) (st0 : List Frame) (k : GenResult → Sem PySem.Fin) (l : List Value) (p0 p : Pos) (Φ : Post), (Ctx.of c0 st0).In A →
    (∀ v gs s', Y v gs s' → Gs M Φ (s'.setGen g gs) ⟨k (.yielded v), c0, p0, st0⟩) → (∀ s', R s' → Gs M Φ (s'.setGen g .finished) ⟨k (.returned .none), c0, p0, st0⟩) →
    Gs M Φ s ⟨t, c, p, fs ++ .gen g k l c0 p0 :: st0⟩
/-- where a sleeping generator goes on -/
def GoOn (M : Model) (A : Around) (g : Nat) (Y : Value → GenState → Shared → Prop) (R : Shared → Prop) (gs : GenState) (s : Shared) : Prop :=
  match gs with
  | .fresh c => GenG M A g Y R c (M.den c) [] s
  | .suspended k _ c _ fs _ => GenG M A g Y R c (k (.send .none)) fs s
  | _ => False
section
variable {M : Model} {A : Around} {g : Nat} {Y : Value → GenState → Shared → Prop} {R : Shared → Prop} {c : Code} {fs : List Frame} {s : Shared}
theorem gg_mono {Y' : Value → GenState → Shared → Prop} {R' : Shared → Prop} {t : Sem PySem.Fin} (h : GenG M A g Y R c t fs s) (hY : ∀ v gs s', Y v gs s' → Y' v gs s') (hR : ∀ s', R s' → R' s') : GenG M A g Y' R' c t fs s :=
  fun c0 st0 k l p0 p Φ hc h1 h2 => h c0 st0 k l p0 p Φ hc (fun v gs s' q => h1 v gs s' (hY v gs s' q)) fun s' q => h2 s' (hR s' q)
theorem gg_wrap {α : Type} {m : Sem α} {K : α → Sem PySem.Fin} {H : Value → Sem PySem.Fin} {gd : Bool → Bool} {lv : List Value → List Value}
    (h : wpG M (A.over c fs) m (fun a s' => GenG M A g Y R c (K a) fs s') (fun x s' => GenG M A g Y R c (H x) fs s') s) : GenG M A g Y R c (m.wrap K H gd lv) fs s :=
  fun c0 st0 k l p0 p Φ hc h1 h2 => h c (fs ++ .gen g k l c0 p0 :: st0) (ctx_gen hc) K H gd lv p Φ (fun a s' p' q => q c0 st0 k l p0 p' Φ hc h1 h2) fun x s' p' q => q c0 st0 k l p0 p' Φ hc h1 h2
theorem gg_bind {α : Type} {m : Sem α} {K : α → Sem PySem.Fin} (h : wpG M (A.over c fs) m (fun a s' => GenG M A g Y R c (K a) fs s') (fun x s' => GenG M A g Y R c (.raise x) fs s') s) : GenG M A g Y R c (m >>= K) fs s := by
  rw [Sem.bind_eq_wrap']; exact gg_wrap h
theorem gg_bind_wrap {α β : Type} {m : Sem α} {K : α → Sem β} {K' : β → Sem PySem.Fin} {H' : Value → Sem PySem.Fin} {gd : Bool → Bool} {lv : List Value → List Value}
    (h : wpG M (A.over c fs) m (fun a s' => GenG M A g Y R c ((K a).wrap K' H' gd lv) fs s') (fun x s' => GenG M A g Y R c (H' x) fs s') s) : GenG M A g Y R c ((m >>= K).wrap K' H' gd lv) fs s := by
  rw [Sem.bind_eq_wrap', Sem.wrap_wrap]; exact gg_wrap h
theorem gg_at {p' : Pos} {k : Unit → Sem PySem.Fin} (h : GenG M A g Y R c (k ()) fs s) : GenG M A g Y R c (.at p' k) fs s := fun c0 st0 k' l p0 p Φ hc h1 h2 => .step (step_at ..) (h c0 st0 k' l p0 p' Φ hc h1 h2)
theorem gg_rule {tag : String} {k : Unit → Sem PySem.Fin} (h : GenG M A g Y R c (k ()) fs s) : GenG M A g Y R c (.rule tag k) fs s := fun c0 st0 k' l p0 p Φ hc h1 h2 => .step (step_rule ..) (h c0 st0 k' l p0 p Φ hc h1 h2)
theorem gg_point {l : List Value} {k : Unit → Sem PySem.Fin} (h : GenG M A g Y R c (k ()) fs s) : GenG M A g Y R c (.point l k) fs s := fun c0 st0 k' l' p0 p Φ hc h1 h2 => .step (step_point ..) (h c0 st0 k' l' p0 p Φ hc h1 h2)
theorem gg_call {c' : Code} {hd : Option Value} {gq : Bool} {l : List Value} {k : Result → Sem PySem.Fin} (h : ∀ p, GenG M A g Y R c' (M.den c') (.ret k hd gq l c p [] :: fs) s) : GenG M A g Y R c (.call c' hd gq l k) fs s :=
  fun c0 st0 k' l' p0 p Φ hc h1 h2 => .step (step_call ..) (h p c0 st0 k' l' p0 p Φ hc h1 h2)
theorem gg_leaf {k : Result → Sem PySem.Fin} {hd : Option Value} {gq : Bool} {l kp : List Value} {c₁ : Code} {p₁ : Pos} (r : Result) (h : GenG M A g Y R c₁ (k r) fs s) : GenG M A g Y R c (leafOf r) (.ret k hd gq l c₁ p₁ kp :: fs) s :=
  fun c0 st0 k' l' p0 p Φ hc h1 h2 => .step (step_leaf_ret ..) (h c0 st0 k' l' p0 p₁ Φ hc h1 h2)
theorem gg_again {c' : Code} (hq : c'.quiet = true) (h : GenG M A g Y R c' (M.den c') fs s) : GenG M A g Y R c (.pure (.again c')) fs s :=
  fun c0 st0 k' l' p0 p Φ hc h1 h2 => .step (step_again _ _ _ _ _ _ hq) (h c0 st0 k' l' p0 p Φ hc h1 h2)
theorem gg_end (h : R s) : GenG M A g Y R c (leafOf (.ok (.ret .none))) [] s := fun c0 st0 k' l' p0 p Φ hc h1 h2 => .step (step_leaf_gen ..) (h2 s h)
theorem gg_yield {v : Value} {l : List Value} {k : Resume → Sem PySem.Fin} (hfs : splitAtGen fs = none) (hfg : fs.any Frame.guarded = false) (h : ∀ p, Y v (.suspended k l c p fs false) s) : GenG M A g Y R c (.yield v false l k) fs s :=
  fun c0 st0 k' l' p0 p Φ hc h1 h2 => by
    have hx : splitAtGen (fs ++ .gen g k' l' c0 p0 :: st0) = some (fs, (g, k', c0, p0), st0) := by rw [splitAtGen_append_none _ hfs, splitAtGen_gen]; simp
    refine .step (step_yield _ _ _ _ _ _ _ _ _ hx (by simp [End.quiet, hfg])) ?_
    have e : (End.susp v false l k c p fs).genState = .suspended k l c p fs false := by simp [End.genState, hfg]
    rw [e]
    exact h1 v _ s (h p)
/-- a yield of «yield from» over a generator -/
theorem gg_yieldF {v : Value} {l : List Value} {k : Resume → Sem PySem.Fin} {a : Addr} {rest : List Value} {kw : List (PySem.Str × Value)} {o : Obj} {n : Nat} (hfs : splitAtGen fs = none) (hfg : fs.any Frame.guarded = false) (ho : s.heap.get? a = some o) (hn : o.genNumber? = some n)
    (h : ∀ p, Y v (.suspended k l (.builtin "proto.yield_from" ⟨.ref a :: rest, kw⟩) p fs true) s) : GenG M A g Y R (.builtin "proto.yield_from" ⟨.ref a :: rest, kw⟩) (.yield v true l k) fs s :=
  fun c0 st0 k' l' p0 p Φ hc h1 h2 => by
    have hx : splitAtGen (fs ++ .gen g k' l' c0 p0 :: st0) = some (fs, (g, k', c0, p0), st0) := by rw [splitAtGen_append_none _ hfs, splitAtGen_gen]; simp
    refine Gs.go (.step (.inr ⟨v, l, k, a, rest, kw, fs, _, _, rfl, rfl, hx, hfg, o, n, ho, hn⟩) (s₁ := s.setGen g (.suspended k l (.builtin "proto.yield_from" ⟨.ref a :: rest, kw⟩) p fs true)) (t₁ := ⟨k' (.yielded v), c0, p0, st0⟩) ?_ .refl) (h1 v _ s (h p))
    simp only [PySem.stepK, PySem.step, hx, hfg]
    rfl
/-- THE WAKING -/
theorem wpG_resume {α : Type} {k : GenResult → Sem α} {l : List Value} {gs : GenState} {Q : α → Shared → Prop} {E : Value → Shared → Prop} (hg : s.gens[g]? = some gs) (h : GoOn M A g Y R gs (s.setGen g .running))
    (hY : ∀ v gs' s', Y v gs' s' → wpG M A (k (.yielded v)) Q E (s'.setGen g gs')) (hR : ∀ s', R s' → wpG M A (k (.returned .none)) Q E (s'.setGen g .finished)) : wpG M A (.resume g (.send .none) l k) Q E s := by
  intro c st hc K H gd lv p Φ hQ hE
  show Gs M Φ s ⟨.resume g (.send .none) (lv l) (fun x => (k x).wrap K H gd lv), c, p, st⟩
  cases gs with
  | running => exact h.elim
  | finished => exact h.elim
  | fresh c' =>
    refine .step (step_resume_fresh _ _ _ _ _ _ _ hg) ?_
    exact h c st _ _ p p Φ hc (fun v gs' s' q => hY v gs' s' q c st hc K H gd lv p Φ hQ hE) fun s' q => hR s' q c st hc K H gd lv p Φ hQ hE
  | suspended k0 l0 c0 p0 fs0 cl =>
    refine .step (step_resume_suspended _ _ _ _ _ _ _ _ hg) ?_
    exact h c st _ _ p p0 Φ hc (fun v gs' s' q => hY v gs' s' q c st hc K H gd lv p Φ hQ hE) fun s' q => hR s' q c st hc K H gd lv p Φ hQ hE
end
end NwM
end
section
/-! A run never makes the heap shorter. -/
namespace NwB
open PySem
open Sem (wp)
theorem upd_hsz (h : Heap) (a : Addr) (f : Obj → Obj) : (h.update a f).objs.size = h.objs.size := (Heap.SameBut.update h a f).1
theorem runs_hsz {M : Model} {Γ : Ctx} {p : Pos} {t : Sem PySem.Fin} {fs : List Frame} {s s' : Shared} {e : End} (h : Runs M Γ p t fs s e s') : s.heap.objs.size ≤ s'.heap.objs.size := by
  induction h <;> (try simp only [Shared.setGen, upd_hsz, Heap.size_push] at *) <;> first | exact Nat.le_refl _ | assumption | omega
theorem wakes_hsz {M : Model} {Γ : Ctx} {p : Pos} {g : Nat} {r : Resume} {s s' : Shared} {res : GenResult} (h : Wakes M Γ p g r s res s') : s.heap.objs.size ≤ s'.heap.objs.size := by
  unfold Wakes at h
  split at h
  · exact h.elim
  · split at h
    · obtain ⟨e₁, s₁, hr, _, _, rfl⟩ := h; have q := runs_hsz hr; exact q
    · rw [h.2]; exact Nat.le_refl _
    · rw [h.2]; exact Nat.le_refl _
  · obtain ⟨e₁, s₁, hr, _, _, rfl⟩ := h; have q := runs_hsz hr; exact q
  · rw [h.2]; exact Nat.le_refl _
  · rw [h.2]; exact Nat.le_refl _
theorem wp_hsz {α : Type} (M : Model) (Γ : Ctx) (n : Nat) (t : Sem α) : ∀ (Q : α → Pos → Shared → Prop) (E : Value → Pos → Shared → Prop) (p : Pos) (s : Shared), n ≤ s.heap.objs.size → wp M Γ t Q E p s → wp M Γ t (fun a p' s' => n ≤ s'.heap.objs.size ∧ Q a p' s') (fun e p' s' => n ≤ s'.heap.objs.size ∧ E e p' s') p s := by
  induction t with
  | pure a => exact fun Q E p s hn h => ⟨hn, h⟩
  | raise e => exact fun Q E p s hn h => ⟨hn, h⟩
  | unsupported _ => exact fun Q E p s _ h => h
  | finish _ => exact fun Q E p s _ h => h
  | register _ _ => exact fun Q E p s _ h => h
  | yield _ _ _ _ => exact fun Q E p s _ h => h
  | fork _ _ => exact fun Q E p s _ h => h
  | await _ _ _ _ _ => exact fun Q E p s _ h => h
  | load a _ k ih => exact fun Q E p s hn ⟨o, ho, h⟩ => ⟨o, ho, ih o Q E p s hn h⟩
  | update a _ f k ih => exact fun Q E p s hn h => ⟨h.1, ih () Q E p { s with heap := s.heap.update a f } (by show n ≤ (s.heap.update a f).objs.size; rw [upd_hsz]; exact hn) h.2⟩
  | alloc o k ih => exact fun Q E p s hn h => ih _ Q E p { s with heap := s.heap.push o } (Nat.le_trans hn (by show _ ≤ (s.heap.push o).objs.size; rw [Heap.size_push]; exact Nat.le_succ _)) h
  | choose src m k ih => exact fun Q E p s hn h => ⟨h.1, ih _ Q E p { s with drawn := s.drawn.bump src } hn h.2⟩
  | call c hd _ _ k ih => exact fun Q E p s hn ⟨r, s', hr, h⟩ => ⟨r, s', hr, ih r Q E p s' (Nat.le_trans hn (runs_hsz hr)) h⟩
  | genState g k ih => exact fun Q E p s hn ⟨st, hs, h⟩ => ⟨st, hs, ih _ Q E p s hn h⟩
  | resume g r _ k ih => exact fun Q E p s hn ⟨res, s', hw, h⟩ => ⟨res, s', hw, ih res Q E p s' (Nat.le_trans hn (wakes_hsz hw)) h⟩
  | rule _ k ih => exact fun Q E p s hn h => ih () Q E p s hn h
  | «at» p' k ih => exact fun Q E p s hn h => ih () Q E p' s hn h
  | loadIfAlive a k ih => exact fun Q E p s hn h => ih _ Q E p s hn h
  | point _ k ih => exact fun Q E p s hn h => ih () Q E p s hn h
  | fresh k ih => exact fun Q E p s hn h => ih _ Q E p { s with toks := s.toks + 1 } hn h
  | ask k ih => exact fun Q E p s hn h => ih _ Q E p s hn h
  | os q _ k ih => exact fun Q E p s hn h => ih _ Q E p { s with os := (Os.step s.os q).1 } hn h
  | handled own k ih => exact fun Q E p s hn h => ih _ Q E p s hn h
  | newGen c k ih => exact fun Q E p s hn h => ih _ Q E p { s with gens := s.gens.push (.fresh c) } hn h
  | stack k ih => exact fun Q E p s hn h => ih _ Q E p s hn h
  | thread k ih => exact fun Q E p s hn h => ih _ Q E p s hn h
theorem wpAny_hsz {α : Type} {M : Model} {A : Around} {s : Shared} {t : Sem α} {Q : α → Shared → Prop} {E : Value → Shared → Prop} (h : wpAny M A t Q E s) :
    wpAny M A t (fun a s' => s.heap.objs.size ≤ s'.heap.objs.size ∧ Q a s') (fun e s' => s.heap.objs.size ≤ s'.heap.objs.size ∧ E e s') s := fun Γ p hΓ => wp_hsz M Γ _ t _ _ p s (Nat.le_refl _) (h Γ p hΓ)
end NwB
end
section
/-! What the hand's logic shows of quiet code, within the logic over loud steps; the table of generators told apart. -/
namespace NwG
open PySem PySem.Spec PyProof.Rows L2 NwB NwM
/-- from T0 to T: what had begun stands, but the entries at gf; what is there now is bare, or stood there, or is at gf' -/
structure GT (T0 T : Array GenState) (gf gf' : Nat → Prop) : Prop where
  size : T0.size ≤ T.size
  kept : ∀ i x, T0[i]? = some x → Begun x → ¬ gf i → T[i]? = some x
  bare : ∀ i x, T[i]? = some x → x.bare = true ∨ (T0[i]? = some x ∧ ¬ gf i) ∨ gf' i
abbrev no : Nat → Prop := fun _ => False
theorem GT.refl (T : Array GenState) : GT T T no no := ⟨Nat.le_refl _, fun _ _ h _ _ => h, fun _ _ h => .inr (.inl ⟨h, fun z => z⟩)⟩
theorem GT.trans {T0 T1 T2 : Array GenState} {gf gf1 g1 g2 : Nat → Prop} (a : GT T0 T1 gf gf1) (b : GT T1 T2 g1 g2) (hn : ∀ i, g1 i → gf i ∨ T0.size ≤ i) : GT T0 T2 gf (fun i => (gf1 i ∧ ¬ g1 i) ∨ g2 i) where
  size := Nat.le_trans a.size b.size
  kept := fun i x h hb hg => b.kept i x (a.kept i x h hb hg) hb fun z => (hn i z).elim hg fun z => absurd ((Array.getElem?_eq_some_iff.mp h).1) (Nat.not_lt.mpr z)
  bare := fun i x h => by
    rcases b.bare i x h with z | ⟨z, n⟩ | z
    · exact .inl z
    · rcases a.bare i x z with y | y | y
      · exact .inl y
      · exact .inr (.inl y)
      · exact .inr (.inr (.inl ⟨y, n⟩))
    · exact .inr (.inr (.inr z))
theorem GT.imp {T0 T : Array GenState} {gf gf' gg : Nat → Prop} (a : GT T0 T gf gf') (h : ∀ i, gf' i → gg i) : GT T0 T gf gg := ⟨a.size, a.kept, fun i x e => (a.bare i x e).imp id (Or.imp id (h i))⟩
abbrev Sub := List (Nat × GenState)
abbrev At (l : Sub) : Nat → Prop := fun i => ∃ p ∈ l, p.1 = i
/-- these sleep there -/
def Subs (l : Sub) (T : Array GenState) : Prop := ∀ p ∈ l, T[p.1]? = some p.2 ∧ Begun p.2
theorem Subs.step {l : Sub} {T T' : Array GenState} (h : Subs l T) (g : GT T T' no no) : Subs l T' := fun p hp => ⟨g.kept _ _ (h p hp).1 (h p hp).2 fun z => z, (h p hp).2⟩
theorem GT.quiet {T0 T1 T2 : Array GenState} {gf gf1 : Nat → Prop} (a : GT T0 T1 gf gf1) (b : GT T1 T2 no no) : GT T0 T2 gf gf1 := (a.trans b (fun _ z => z.elim)).imp fun i h => h.elim (fun z => z.1) fun z => z.elim
abbrev Emp : Value → Shared → Prop := fun _ _ => False
theorem inv_bare {X : Cx} {pins : List (Addr × Obj)} {σ : L2.St} {H : Hp} {s : Shared} {T T' : Array GenState} (I : Inv X pins σ H (re s T')) (hT : AllBare T) : Inv X pins σ H (re s T) :=
  ⟨I.ok, I.os, hT, I.base, I.loc, I.cell, I.free, I.freeC, I.pin, I.hok, I.len⟩
theorem emb {α : Type} {M : Model} {A : Around} {t : Sem α} {Q : α → Shared → Prop} {E : Value → Shared → Prop} {s : Shared} (h : ∀ T, AllBare T → wpAny M A t Q E (re s T)) (hb : ∀ a s', Q a s' → AllBare s'.gens) (hE : ∀ e s', E e s' → False) :
    wpG M A t (fun a r => ∃ T, Q a (re r T) ∧ GT s.gens r.gens no no ∧ s.heap.objs.size ≤ r.heap.objs.size) Emp s :=
  wpG_of (wpAny_bomb (wpAny_hsz (h (s.gens.map bomb) (bombs_bare _))) (fun a s' T' j q => ⟨s'.gens, q.2, ⟨j.le, fun i x e b _ => j.kept e b, fun i x e => (j.bare (hb a s' q.2) i x e).imp id fun z => .inl ⟨z, fun y => y⟩⟩, q.1⟩) fun e s' _ _ q => hE e s' q.2)
/-- .. told too: what has not begun there has not begun here -/
theorem emb2 {α : Type} {M : Model} {A : Around} {t : Sem α} {Q : α → Shared → Prop} {s : Shared} (h : ∀ T, AllBare T → T.size = s.gens.size → wpAny M A t Q Emp (re s T)) (hb : ∀ a s', Q a s' → AllBare s'.gens) :
    wpG M A t (fun a r => ∃ T, Q a (re r T) ∧ GT s.gens r.gens no no ∧ s.heap.objs.size ≤ r.heap.objs.size ∧ T.size = r.gens.size ∧ ∀ (i : Nat) c, T[i]? = some (.fresh c) → r.gens[i]? = some (.fresh c)) Emp s :=
  wpG_of (wpAny_bomb (wpAny_hsz (h (s.gens.map bomb) (bombs_bare _) (by simp))) (fun a s' T' j q => ⟨s'.gens, q.2, ⟨j.le, fun i x e b _ => j.kept e b, fun i x e => (j.bare (hb a s' q.2) i x e).imp id fun z => .inl ⟨z, fun y => y⟩⟩, q.1, j.size.symm, fun i c e => j.plain e fun _ _ _ _ _ _ z => nomatch z⟩) fun e s' _ _ q => q.2)
/-- the invariant, without the table; the table since the entry -/
structure IG (X : Cx) (T0 : Shared) (gf : Nat → Prop) (sub : Sub) (pins : List (Addr × Obj)) (σ : L2.St) (H : Hp) (s : Shared) : Prop where
  inv : Inv X pins σ H (re s #[])
  gt : GT T0.gens s.gens gf (At sub)
  subs : Subs sub s.gens
  new : ∀ p ∈ sub, gf p.1 ∨ T0.gens.size ≤ p.1
  hsz : T0.heap.objs.size ≤ s.heap.objs.size
section
variable {X : Cx} {T0 : Shared} {gf : Nat → Prop} {sub : Sub} {pins : List (Addr × Obj)} {σ : L2.St} {H : Hp} {s : Shared}
theorem IG.then {pins' : List (Addr × Obj)} {σ' : L2.St} {H' : Hp} {r : Shared} {T : Array GenState} (I : IG X T0 gf sub pins σ H s) (J : Inv X pins' σ' H' (re r T)) (g : GT s.gens r.gens no no ∧ s.heap.objs.size ≤ r.heap.objs.size) : IG X T0 gf sub pins' σ' H' r :=
  ⟨inv_bare J AllBare.empty, I.gt.quiet g.1, I.subs.step g.1, I.new, Nat.le_trans I.hsz g.2⟩
def EG (X : Cx) (T0 : Shared) (gf : Nat → Prop) (sub : Sub) (pins : List (Addr × Obj)) (σ : L2.St) (Q : VK) (u : Value) (s' : Shared) : Prop := ∃ v H', IG X T0 gf sub pins σ H' s' ∧ RelV v u ∧ Q v H'
def TGt (X : Cx) (T0 : Shared) (gf : Nat → Prop) (sub : Sub) (pins : List (Addr × Obj)) (σ : L2.St) (Q : Bool → Hp → Prop) (b : Bool) (s' : Shared) : Prop := ∃ H', IG X T0 gf sub pins σ H' s' ∧ Q b H'
def AG (X : Cx) (T0 : Shared) (gf : Nat → Prop) (sub : Sub) (pins : List (Addr × Obj)) (σ : L2.St) (Q : List V → Hp → Prop) (us : List Value) (s' : Shared) : Prop := ∃ vs H', IG X T0 gf sub pins σ H' s' ∧ Vals vs us ∧ Q vs H'
def SG (X : Cx) (T0 : Shared) (gf : Nat → Prop) (sub : Sub) (pins : List (Addr × Obj)) (D : Ends) (f : Flow) (s' : Shared) : Prop :=
  match f with
  | .next => ∃ σ' H', IG X T0 gf sub pins σ' H' s' ∧ D.nx σ' H'
  | .brk => ∃ σ' H', IG X T0 gf sub pins σ' H' s' ∧ D.bk σ' H'
  | .cont => ∃ σ' H', IG X T0 gf sub pins σ' H' s' ∧ D.ct σ' H'
  | .ret u => ∃ v σ' H', IG X T0 gf sub pins σ' H' s' ∧ RelV v u ∧ D.rt v H'
theorem pe_G {e : Expr} {t : TE} {Q : VK} (h : PE X e t) (hx : ∀ e s, X.xe e s → False) (I : IG X T0 gf sub pins σ H s) (q : t σ H Q) : wpG (model X.prog X.w) X.A (eval e X.env) (EG X T0 gf sub pins σ Q) Emp s :=
  wpG_mono (emb (fun T hT => h.run pins _ σ H Q (inv_bare I.inv hT) q) (fun a s' ⟨_, _, J, _⟩ => J.bare) hx) (fun u r ⟨T, ⟨v, H', J, rv, qq⟩, g⟩ => ⟨v, H', I.then J g, rv, qq⟩) fun _ _ z => z
theorem pt_G {e : Expr} {t : TT} {Q : Bool → Hp → Prop} (h : PT X e t) (hx : ∀ e s, X.xe e s → False) (I : IG X T0 gf sub pins σ H s) (q : t σ H Q) : wpG (model X.prog X.w) X.A (isTrue e X.env (eval e X.env)) (TGt X T0 gf sub pins σ Q) Emp s :=
  wpG_mono (emb (fun T hT => h.run pins _ σ H Q (inv_bare I.inv hT) q) (fun a s' ⟨_, J, _⟩ => J.bare) hx) (fun u r ⟨T, ⟨H', J, qq⟩, g⟩ => ⟨H', I.then J g, qq⟩) fun _ _ z => z
theorem pa_G {es : List Expr} {t : TA} {pos : Pos} {Q : List V → Hp → Prop} (h : PA X es t) (hx : ∀ e s, X.xe e s → False) (I : IG X T0 gf sub pins σ H s) (q : t σ H Q) : wpG (model X.prog X.w) X.A (spliced (backTo pos (starEach es X.env))) (AG X T0 gf sub pins σ Q) Emp s :=
  wpG_mono (emb (fun T hT => h.run pos pins _ σ H Q (inv_bare I.inv hT) q) (fun a s' ⟨_, _, J, _⟩ => J.bare) hx) (fun u r ⟨T, ⟨v, H', J, rv, qq⟩, g⟩ => ⟨v, H', I.then J g, rv, qq⟩) fun _ _ z => z
theorem sp_bare {D : Ends} {f : Flow} (h : SP X pins D f s) : AllBare s.gens := by
  cases f with
  | next => obtain ⟨_, _, J, _⟩ := h; exact J.bare
  | brk => obtain ⟨_, _, J, _⟩ := h; exact J.bare
  | cont => obtain ⟨_, _, J, _⟩ := h; exact J.bare
  | ret u => obtain ⟨_, _, _, J, _⟩ := h; exact J.bare
theorem sp_sg {D : Ends} {f : Flow} {r : Shared} {T : Array GenState} (I : IG X T0 gf sub pins σ H s) (h : SP X pins D f (re r T)) (g : GT s.gens r.gens no no ∧ s.heap.objs.size ≤ r.heap.objs.size) : SG X T0 gf sub pins D f r := by
  cases f with
  | next => obtain ⟨σ', H', J, q⟩ := h; exact ⟨σ', H', I.then J g, q⟩
  | brk => obtain ⟨σ', H', J, q⟩ := h; exact ⟨σ', H', I.then J g, q⟩
  | cont => obtain ⟨σ', H', J, q⟩ := h; exact ⟨σ', H', I.then J g, q⟩
  | ret u => obtain ⟨v, σ', H', J, rv, q⟩ := h; exact ⟨v, σ', H', I.then J g, rv, q⟩
theorem ps_G {st : Stmt} {t : TS} {D : Ends} (h : PS X st t) (hx : ∀ e s, X.xe e s → False) (I : IG X T0 gf sub pins σ H s) (q : t D σ H) : wpG (model X.prog X.w) X.A (exec st X.env) (SG X T0 gf sub pins D) Emp s :=
  wpG_mono (emb (fun T hT => h.run pins _ σ H D (inv_bare I.inv hT) q) (fun a s' z => sp_bare z) hx) (fun f r ⟨T, z, g⟩ => sp_sg I z g) fun _ _ z => z
theorem pss_G {st : List Stmt} {t : TS} {D : Ends} (h : PSs X st t) (hx : ∀ e s, X.xe e s → False) (I : IG X T0 gf sub pins σ H s) (q : t D σ H) : wpG (model X.prog X.w) X.A (execs st X.env) (SG X T0 gf sub pins D) Emp s :=
  wpG_mono (emb (fun T hT => h.run pins _ σ H D (inv_bare I.inv hT) q) (fun a s' z => sp_bare z) hx) (fun f r ⟨T, z, g⟩ => sp_sg I z g) fun _ _ z => z
theorem pg_G {tg : Expr} {t : L2.TG} {v : V} {u : Value} {Q : L2.St → Hp → Prop} (h : PG X tg t) (hx : ∀ e s, X.xe e s → False) (I : IG X T0 gf sub pins σ H s) (r : RelV v u) (q : t v σ H Q) :
    wpG (model X.prog X.w) X.A (assign tg X.env u) (fun _ s' => ∃ σ' H', IG X T0 gf sub pins σ' H' s' ∧ Q σ' H') Emp s :=
  wpG_mono (emb (fun T hT => h.run pins _ σ H v u Q (inv_bare I.inv hT) r q) (fun a s' ⟨_, _, J, _⟩ => J.bare) hx) (fun f r ⟨T, ⟨σ', H', J, qq⟩, g⟩ => ⟨σ', H', I.then J g, qq⟩) fun _ _ z => z
end
end NwG
end
section
/-! A sleeping generator's contract: the items that it will hand out; its own objects and its own sleeping generators stand; at each waking its context is laid anew over the heap below its frame. -/
namespace NwG
open PySem PySem.Spec PyProof.Rows L2 NwB NwM NdefX LamX
/-! ### the heap below n -/
def cut (n : Nat) (h : Heap) : Heap := { h with objs := h.objs.extract 0 n }
def cutH (n : Nat) (H : Hp) : Hp := fun b => if b < n then H b else none
theorem cut_lt {n : Nat} {h : Heap} {b : Addr} (hb : b < n) : (cut n h).get? b = h.get? b := by
  have e : (h.objs.extract 0 n)[b]? = h.objs[b]? := by
    rw [Array.getElem?_extract]
    split
    · simp
    · rename_i z
      refine (Array.getElem?_eq_none ?_).symm
      have z2 : ¬ (b < min n h.objs.size) := fun y => z (by simpa using y)
      exact Nat.le_of_not_lt fun y => z2 (Nat.lt_min.mpr ⟨hb, y⟩)
  unfold Heap.get? cut
  dsimp only
  rw [e]
theorem cut_ge {n : Nat} {h : Heap} {b : Addr} (hb : n ≤ b) : (cut n h).get? b = none := by
  have e : (h.objs.extract 0 n)[b]? = none := by
    rw [Array.getElem?_eq_none]
    simp only [Array.size_extract]
    exact Nat.le_trans (Nat.sub_le _ _) (Nat.le_trans (Nat.min_le_left _ _) hb)
  unfold Heap.get? cut
  dsimp only
  rw [e]
theorem cut_some {n : Nat} {h : Heap} {b : Addr} {o : Obj} (e : (cut n h).get? b = some o) : b < n ∧ h.get? b = some o := by
  by_cases hb : b < n
  · exact ⟨hb, (cut_lt hb).symm.trans e⟩
  · rw [cut_ge (Nat.le_of_not_lt hb)] at e; cases e
theorem cut_size (n : Nat) (h : Heap) : (cut n h).objs.size = min n h.objs.size := by unfold cut; simp
theorem cutH_lt {n : Nat} {H : Hp} {b : Addr} (hb : b < n) : cutH n H b = H b := if_pos hb
theorem cutH_some {n : Nat} {H : Hp} {b : Addr} {o : HO} (e : cutH n H b = some o) : b < n ∧ H b = some o := by
  unfold cutH at e
  split at e
  · rename_i hb; exact ⟨hb, e⟩
  · cases e
/-- an object as it stands, told to the abstract heap -/
def XO (b : Addr) (o : Obj) : HO := .ext fun h => h.get? b = some o
theorem xo_get {P : Program} {w : World} {H : Hp} {h : Heap} {b : Addr} {o : Obj} (hok : HOk P w H h) (e : H b = some (XO b o)) : h.get? b = some o := (hok b _ e).1
theorem xo_ok {P : Program} {w : World} {H : Hp} {h : Heap} {b : Addr} {o : Obj} (e : h.get? b = some o) : ObjOk P w H h b (XO b o) := ⟨e, ⟨o, e⟩, fun _ _ q k => k o q⟩
theorem xo_own {b x : Addr} {o : Obj} : XO b o ≠ .own x := fun z => nomatch z
theorem xo_tup {b : Addr} {o : Obj} {xs : List V} : XO b o ≠ .tup xs := fun z => nomatch z
/-- these are untracked -/
def unt (L : List Addr) (H : Hp) : Hp := fun b => if b ∈ L then none else H b
theorem unt_in {L : List Addr} {H : Hp} {b : Addr} (h : b ∈ L) : unt L H b = none := if_pos h
theorem unt_out {L : List Addr} {H : Hp} {b : Addr} (h : b ∉ L) : unt L H b = H b := if_neg h
theorem unt_some {L : List Addr} {H : Hp} {b : Addr} {o : HO} (e : unt L H b = some o) : b ∉ L ∧ H b = some o := by
  unfold unt at e
  split at e
  · cases e
  · rename_i h; exact ⟨h, e⟩
/-- these are told as they stand -/
def tell (L : List Addr) (h : Heap) (H : Hp) : Hp := fun b => if b ∈ L then (h.get? b).map (XO b) else H b
theorem tell_in {L : List Addr} {h : Heap} {H : Hp} {b : Addr} {o : Obj} (hb : b ∈ L) (e : h.get? b = some o) : tell L h H b = some (XO b o) := by unfold tell; rw [if_pos hb, e]; rfl
theorem tell_out {L : List Addr} {h : Heap} {H : Hp} {b : Addr} (hb : b ∉ L) : tell L h H b = H b := if_neg hb
abbrev Own := List (Addr × HO)
def xos (L : List Addr) (h : Heap) : Own := L.filterMap fun b => (h.get? b).map fun o => (b, XO b o)
theorem mem_xos {L : List Addr} {h : Heap} {b : Addr} {o : Obj} (hb : b ∈ L) (e : h.get? b = some o) : (b, XO b o) ∈ xos L h := List.mem_filterMap.mpr ⟨b, hb, by rw [e]; rfl⟩
theorem of_xos {L : List Addr} {h : Heap} {p : Addr × HO} (hp : p ∈ xos L h) : p.1 ∈ L ∧ ∃ o, h.get? p.1 = some o ∧ p.2 = XO p.1 o := by
  obtain ⟨b, hb, e⟩ := List.mem_filterMap.mp hp
  cases q : h.get? b with
  | none => rw [q] at e; cases e
  | some o =>
    rw [q] at e
    have e' : (b, XO b o) = p := Option.some.inj e
    subst e'
    exact ⟨hb, o, q, rfl⟩
section
variable {P : Program} {w : World} {H : Hp} {h : Heap} {L : List Addr}
theorem hok_unt (x : HOk P w H h) (hL : ∀ b ∈ L, ∃ o, H b = some (XO b o)) : HOk P w (unt L H) h := fun a o e => by
  obtain ⟨_, e⟩ := unt_some e
  refine (x a o e).stay (fun _ _ _ q => q) (fun b q => ?_) fun b xs q => ?_
  · rw [unt_out fun z => ?_]; exact q
    obtain ⟨o', e'⟩ := hL b z
    rw [q] at e'; exact xo_own (Option.some.inj e').symm
  · rw [unt_out fun z => ?_]; exact q
    obtain ⟨o', e'⟩ := hL b z
    rw [q] at e'; exact xo_tup (Option.some.inj e').symm
theorem hok_tell (x : HOk P w H h) (hL : ∀ b ∈ L, H b = none ∧ ∃ o, h.get? b = some o) : HOk P w (tell L h H) h := fun a o e => by
  by_cases ha : a ∈ L
  · obtain ⟨_, ob, eo⟩ := hL a ha
    rw [tell_in ha eo] at e
    cases e
    exact xo_ok eo
  · rw [tell_out ha] at e
    refine (x a o e).stay (fun _ _ _ q => q) (fun b q => ?_) fun b xs q => ?_
    · rw [tell_out fun z => ?_]; exact q
      rw [(hL b z).1] at q; cases q
    · rw [tell_out fun z => ?_]; exact q
      rw [(hL b z).1] at q; cases q
end
/-! ### the contract -/
/-- where the consumer stands (A, outer), where the generator's frame lies, its number, what it reads of others -/
structure Gp where
  P : Program
  w : World
  K : PySem.W.Frag
  mg : PySem.Str → Option Value
  base : Heap
  A : Around
  outer : List Env
  n0 : Nat
  g : Nat
  Sh : Heap → Hp → Prop
  T : List NTab
abbrev Gp.M (G : Gp) : Model := model G.P G.w
/-- own, or nobody's till now -/
def Mem (O : Own) (Hc : Hp) (a : Addr) : Prop := (∃ q ∈ O, q.1 = a) ∨ Hc a = none
theorem rep_get {n : Nat} {b : Addr} (hb : b < n) (x1 : Value) (x2 : Option Addr) (vs : Array Value) (x4 : Array (Option Value)) : ({ objs := Array.replicate n ⟨x1, x2, .fields vs, x4⟩ } : Heap).get? b = some ⟨x1, x2, .fields vs, x4⟩ := by
  have e : (Array.replicate n (⟨x1, x2, .fields vs, x4⟩ : Obj))[b]? = some ⟨x1, x2, .fields vs, x4⟩ := by
    rw [Array.getElem?_replicate, if_pos hb]
  unfold Heap.get?
  dsimp only
  rw [e]
/-- an object's telling is no code object's -/
theorem xo_code {a c : Addr} {o : Obj} {q : PySem.Str} : XO a o ≠ CodeO c q := fun z => by
  have e : (fun h : Heap => h.get? a = some o) = (fun h : Heap => ∃ (oc : Obj) (vs : Array Value) (t : Tok), h.get? c = some oc ∧ oc.data = .fields vs ∧ vs[1]? = some (.str q t)) := by
    unfold XO CodeO at z
    injection z
  have all : ∀ sl : Array (Option Value), (⟨.none, none, .fields #[.none, .str q 0], sl⟩ : Obj) = o := fun sl => by
    have q1 := congrFun e { objs := Array.replicate (a + c + 1) ⟨.none, none, .fields #[.none, .str q 0], sl⟩ }
    have q3 := q1.mpr ⟨_, _, 0, rep_get (Nat.lt_succ_of_le (Nat.le_add_left c a)) _ _ _ _, rfl, rfl⟩
    have q4 : _ = some o := q3
    rw [rep_get (Nat.lt_succ_of_le (Nat.le_add_right a c))] at q4
    exact Option.some.inj q4
  have e1 := (all #[]).trans (all #[none]).symm
  injection e1 with _ _ _ e3
  exact absurd (congrArg Array.size e3) (by simp)
/-- what never changes: a code object, a tuple -/
def StO (a : Addr) (o : HO) : Prop := (∃ q, o = CodeO a q) ∨ ∃ xs, o = .tup xs
theorem xo_st {a : Addr} {o : HO} {b : Addr} {u : Obj} (h : StO a o) (e : o = XO b u) : False := by
  rcases h with ⟨q, r⟩ | ⟨xs, r⟩
  · exact xo_code (e.symm.trans r)
  · rw [r] at e; cases e
theorem tbl_st {a : Addr} {ps : Array Value} (h : StO a (.tbl ps)) : False := by
  rcases h with ⟨q, r⟩ | ⟨xs, r⟩
  · exact codeO_ne ps r.symm
  · cases r
/-- from a waking on: what was told and is not own stands; tables only grow, and tell what they told -/
structure Kp (T : List NTab) (Hc : Hp) (O : Own) (H : Hp) : Prop where
  ext : ∀ a o, ((∀ t ∈ T, t.1 ≠ a) ∨ ∀ ps, o ≠ .tbl ps) → Hc a = some o → (∀ q ∈ O, q.1 ≠ a) → H a = some o
  tbl : ∀ a ps, (∃ t ∈ T, t.1 = a) → Hc a = some (.tbl ps) → ∃ more, H a = some (.tbl (ps ++ more))
  tab : TabsN T Hc → TabsN T H
  code : ∀ c o, StO c o → Hc c = some o → H c = some o
theorem tabs_but {T : List NTab} {H H' : Hp} (t : TabsN T H) (k : ∀ b o, (∀ o', o ≠ XO b o') → H b = some o → H' b = some o) : TabsN T H' := fun p hp => by
  obtain ⟨ps, h1, h2, h3⟩ := t p hp
  refine ⟨ps, k _ _ (fun o' z => nomatch z) h1, h2, fun pos cv hc => ?_⟩
  obtain ⟨c, e1, e2⟩ := h3 pos cv hc
  exact ⟨c, e1, k _ _ (fun o' => Ne.symm xo_code) e2⟩
section
variable {T : List NTab} {Hc H H1 : Hp} {O : Own}
theorem Kp.mem (k : Kp T Hc O H) {a : Addr} (h : H a = none) : Mem O Hc a := by
  by_cases e : ∃ q ∈ O, q.1 = a
  · exact .inl e
  · cases q : Hc a with
    | none => exact .inr q
    | some o =>
      by_cases ht : (∃ t ∈ T, t.1 = a) ∧ ∃ ps, o = .tbl ps
      · obtain ⟨hm, ps, rfl⟩ := ht
        obtain ⟨more, z⟩ := k.tbl a ps hm q
        rw [h] at z; cases z
      · have hn : (∀ t ∈ T, t.1 ≠ a) ∨ ∀ ps, o ≠ .tbl ps := by
          by_cases h1 : ∃ t ∈ T, t.1 = a
          · exact .inr fun ps z => ht ⟨h1, ps, z⟩
          · exact .inl fun t ht z => h1 ⟨t, ht, z⟩
        have := k.ext a o hn q fun r hr z => e ⟨r, hr, z⟩
        rw [h] at this; cases this
theorem Kp.full (k : Kp T Hc O H) (f : ∀ b o, H b = some o → H1 b = some o) : Kp T Hc O H1 :=
  ⟨fun a o n e h => f _ _ (k.ext a o n e h), fun a ps hm e => let ⟨m, z⟩ := k.tbl a ps hm e; ⟨m, f _ _ z⟩, fun t => (k.tab t).ext f, fun c o st h => f _ _ (k.code c o st h)⟩
theorem Kp.xo (k : Kp T Hc O H) {a : Addr} {o o' : Obj} (e : H a = some (XO a o)) (hm : Mem O Hc a) : Kp T Hc O (upd H a (XO a o')) where
  ext := fun b u n h1 h2 => by
    rw [upd_ne fun z => ?_]
    · exact k.ext b u n h1 h2
    · rcases hm with ⟨r, m1, m2⟩ | m
      · exact h2 r m1 (m2.trans z.symm)
      · rw [← z, h1] at m; cases m
  tbl := fun b ps hm h => by
    obtain ⟨more, z⟩ := k.tbl b ps hm h
    refine ⟨more, ?_⟩
    rw [upd_ne fun y => ?_]
    · exact z
    · rw [y, e] at z; cases z
  tab := fun t => tabs_but (k.tab t) fun b u n h => by
    rw [upd_ne fun y => ?_]
    · exact h
    · rw [y, e] at h
      exact n o (by rw [y]; exact (Option.some.inj h).symm)
  code := fun c q st h => by
    rw [upd_ne fun y => ?_]
    · exact k.code c q st h
    · have z := k.code c q st h
      rw [y, e] at z
      exact xo_st st (Option.some.inj z).symm
theorem Kp.aft {Oi : Own} {H' : Hp} (k : Kp T Hc O H) (a : Kp T H Oi H') (hOi : ∀ q ∈ Oi, Mem O Hc q.1) : Kp T Hc O H' where
  ext := fun b u n h1 h2 => a.ext b u n (k.ext b u n h1 h2) fun p hp z => by
    rcases hOi p hp with ⟨r, m1, m2⟩ | m
    · exact h2 r m1 (m2.trans z)
    · rw [z, h1] at m; cases m
  tbl := fun b ps hm h => by
    obtain ⟨m1, z1⟩ := k.tbl b ps hm h
    obtain ⟨m2, z2⟩ := a.tbl b _ hm z1
    exact ⟨m1 ++ m2, by rw [z2, Array.append_assoc]⟩
  tab := fun t => a.tab (k.tab t)
  code := fun c q st h => a.code c q st (k.code c q st h)
theorem Kp.unt {L : List Addr} (hL : ∀ b ∈ L, (∃ o, Hc b = some (XO b o)) ∧ ∃ q ∈ O, q.1 = b) : Kp T Hc O (unt L Hc) where
  ext := fun b u n h1 h2 => by
    rw [unt_out fun z => ?_]
    · exact h1
    · obtain ⟨_, r, m1, m2⟩ := hL b z
      exact h2 r m1 m2
  tbl := fun b ps _ h => by
    refine ⟨#[], ?_⟩
    rw [unt_out fun z => ?_]
    · rw [h]; simp
    · obtain ⟨⟨o, e⟩, _⟩ := hL b z
      rw [h] at e; cases e
  tab := fun t => tabs_but t fun b u n h => by
    rw [unt_out fun z => ?_]
    · exact h
    · obtain ⟨⟨o, e⟩, _⟩ := hL b z
      rw [h] at e
      exact n o (Option.some.inj e)
  code := fun c q st h => by
    rw [unt_out fun z => ?_]
    · exact h
    · obtain ⟨⟨o, e⟩, _⟩ := hL c z
      rw [h] at e
      exact xo_st st (Option.some.inj e)
end
/-- what may be told of an own object -/
def OkO : HO → Prop
  | .tup _ => False
  | .frz _ _ => False
  | .tbl _ => False
  | _ => True
/-- the code objects, the tuples that are told -/
abbrev Cds := Addr → HO → Prop
abbrev Cd (H : Hp) : Cds := fun c o => StO c o ∧ H c = some o
structure Pre (G : Gp) (D : Cds) (O : Own) (gf : Sub) (s : Shared) (Hc : Hp) : Prop where
  kind : ∀ p ∈ O, OkO p.2
  code : ∀ c o, D c o → Hc c = some o
  env : Env0 G.P G.w G.K G.mg G.base G.A G.outer (re s #[]) Hc
  sh : G.Sh s.heap Hc
  own : ∀ p ∈ O, Hc p.1 = some p.2
  subs : Subs gf s.gens
  run : s.gens[G.g]? = some .running
  gne : ∀ p ∈ gf, p.1 ≠ G.g
structure Aft (G : Gp) (O : Own) (gf : Sub) (s : Shared) (Hc : Hp) (O' : Own) (gf' : Sub) (s' : Shared) (H' : Hp) : Prop where
  os : s'.os = s.os
  un : Un (frs G.outer) [] (cutH G.n0 Hc) H' (cut G.n0 s.heap) s'.heap
  hok : HOk G.P G.w H' s'.heap
  kp : Kp G.T Hc O H'
  own : ∀ p ∈ O', H' p.1 = some p.2
  new : ∀ p ∈ O', Mem O Hc p.1
  size : s.heap.objs.size ≤ s'.heap.objs.size
  gt : GT s.gens s'.gens (At gf) (At gf')
  subs : Subs gf' s'.gens
  gnew : ∀ p ∈ gf', At gf p.1 ∨ s.gens.size ≤ p.1
  kind : ∀ p ∈ O', OkO p.2
def Sleep (G : Gp) : List (List V) → Cds → Own → Sub → GenState → Prop
  | [], D, O, gf, gs => ∀ s Hc, Pre G D O gf s Hc → GoOn G.M G.A G.g (fun _ _ _ => False) (fun s' => ∃ H', Aft G O gf s Hc [] [] s' H') gs s
  | x :: xs, D, O, gf, gs => ∀ s Hc, Pre G D O gf s Hc → GoOn G.M G.A G.g (fun v gs' s' => ∃ p H' O' gf', v = .ref p ∧ Begun gs' ∧ H' p = some (.lst x) ∧ Mem O Hc p ∧ (∀ q ∈ O', q.1 ≠ p) ∧ Aft G O gf s Hc O' gf' s' H' ∧ Sleep G xs (Cd H') O' gf' gs') (fun _ => False) gs s
def SY (G : Gp) (xs : List (List V)) (O : Own) (gf : Sub) (s : Shared) (Hc : Hp) (v : Value) (gs' : GenState) (s' : Shared) : Prop :=
  match xs with
  | [] => False
  | x :: xs => ∃ p H' O' gf', v = .ref p ∧ Begun gs' ∧ H' p = some (.lst x) ∧ Mem O Hc p ∧ (∀ q ∈ O', q.1 ≠ p) ∧ Aft G O gf s Hc O' gf' s' H' ∧ Sleep G xs (Cd H') O' gf' gs'
def SR (G : Gp) (xs : List (List V)) (O : Own) (gf : Sub) (s : Shared) (Hc : Hp) (s' : Shared) : Prop :=
  match xs with
  | [] => ∃ H', Aft G O gf s Hc [] [] s' H'
  | _ :: _ => False
theorem sleep_iff {G : Gp} {xs : List (List V)} {D : Cds} {O : Own} {gf : Sub} {gs : GenState} : Sleep G xs D O gf gs ↔ ∀ s Hc, Pre G D O gf s Hc → GoOn G.M G.A G.g (SY G xs O gf s Hc) (SR G xs O gf s Hc) gs s := by
  cases xs <;> exact Iff.rfl
/-! ### a generator's frame -/
def Cxat (X : Cx) (s : Shared) (H : Hp) : Cx := { X with s_0 := { s with heap := cut X.env.locals s.heap, gens := #[] }, H_0 := cutH X.env.locals H }
abbrev Cxgp (X : Cx) (A : Around) (g : Nat) (Sh : Heap → Hp → Prop) (T : List NTab) : Gp := ⟨X.prog, X.w, X.K, X.mg, X.base, A, X.outer, X.env.locals, g, Sh, T⟩
structure Sta (X : Cx) (A : Around) : Prop where
  mod : Mod X.K X.mg X.base
  kind : X.env.scope.kind = .function
  glob : X.env.globals = mainGlobals
  blt : X.env.builtins = builtinsNs
  inj : ∀ x y c, X.env.cells.lookup x = some c → X.env.cells.lookup y = some c → x = y
  has : ∀ x, (X.env.kindOf x = some .cell ∨ X.env.kindOf x = some .free) → ∃ c, X.env.cells.lookup x = some c
  cab : ∀ x c, X.fn x = true → X.env.cells.lookup x = some c → X.env.locals ≤ c
  hd : A.handled = none
  dep : X.A = A.deeper X.env
  stk : X.stack = X.env :: X.outer
  fr : X.env.frame = some X.env.locals
  exn : X.ex = []
  pnn : X.pn = []
  frames : A.frames = some X.outer
  bsz : X.base.objs.size ≤ X.env.locals
  low : ∀ b ∈ X.fs, b < X.env.locals
  xe : ∀ e s, X.xe e s → False
theorem funs_cut {n : Nat} {h base : Heap} : ∀ {l : List Env}, (∀ b ∈ frs l, b < n) → h.FunFrames base l → (cut n h).FunFrames base l
  | [], _, _ => trivial
  | env :: r, hs, ⟨hk, ⟨L, o, hf, hn, ho, hd⟩, hr⟩ => by
    have hm : L ∈ frs (env :: r) := by unfold frs; rw [List.filterMap_cons, hf]; exact List.mem_cons_self
    refine ⟨hk, ⟨L, o, hf, hn, (cut_lt (hs L hm)).trans ho, hd⟩, funs_cut (fun b hb => hs b ?_) hr⟩
    unfold frs
    rw [List.filterMap_cons, hf]
    exact List.mem_cons_of_mem _ hb
section
variable {X : Cx} {A : Around} {g : Nat} {Sh : Heap → Hp → Prop} {T : List NTab} {D : Cds} {O : Own} {gf : Sub} {s : Shared} {Hc : Hp}
theorem at_ok (S : Sta X A) (e : Env0 X.prog X.w X.K X.mg X.base A X.outer (re s #[]) Hc) (lt : X.env.locals ≤ s.heap.objs.size) : (Cxat X s Hc).Ok where
  mod := S.mod
  kind := S.kind
  glob := S.glob
  blt := S.blt
  above := by show (cut _ _).objs.size ≤ _; rw [cut_size]; exact Nat.min_le_left _ _
  inj := S.inj
  has := S.has
  cab := fun x c h1 h2 => Nat.le_trans (by show (cut _ _).objs.size ≤ _; rw [cut_size]; exact Nat.min_le_left _ _) (S.cab x c h1 h2)
  hd := fun _ => by show X.A.handled = none; rw [S.dep]; exact S.hd
  frames := by show X.A.frames = some X.stack; rw [S.dep, S.stk]; exact Around.frames_deeper S.frames
  stk := .inr ⟨S.stk, S.fr⟩
  exf := fun b hb => absurd (show b ∈ X.ex from hb) (by rw [S.exn]; simp)
  bs := fun b o hb => by
    have lb := Nat.lt_of_lt_of_le (Heap.lt_size hb) S.bsz
    obtain ⟨h1, h2⟩ := e.bs b o hb
    exact ⟨(cut_lt lb).trans h1, (cutH_lt lb).trans h2⟩
  bsz := by show _ ≤ (cut _ _).objs.size; rw [cut_size]; exact Nat.le_min.mpr ⟨S.bsz, Nat.le_trans S.bsz lt⟩
  noex := fun b o _ hb => absurd (show b ∈ X.ex from hb) (by rw [S.exn]; simp)
  exfs := fun b hb => absurd (show b ∈ X.ex from hb) (by rw [S.exn]; simp)
  funs := funs_cut S.low e.funs
  frf := fun b hb => (cutH_lt (S.low b hb)).trans (e.frf b hb)
/-- woken: its context anew -/
theorem rebase {X0 : Cx} {sO : Shared} {pins : List (Addr × Obj)} {σ : L2.St} {H : Hp} {L : List Addr} (S : Sta X A) (eN : X0.N = X.N) (ee : X0.env = X.env) (I : Inv X0 pins σ H (re sO #[])) (pre : Pre (Cxgp X A g Sh T) D O gf s Hc)
    (hL : ∀ b ∈ L, X.env.locals ≤ b ∧ ∃ o, sO.heap.get? b = some o ∧ (b, XO b o) ∈ O) (hloc : X.env.locals ∈ L) (hpins : ∀ p ∈ pins, p.1 ∈ L)
    (hcells : ∀ x c, X.env.cells.lookup x = some c → c ∈ L ∨ (Hc c = none ∧ (∃ v, s.heap.IsCell c v) ∧ ∀ (i : Nat) v, X.N[i]? = some x → σ[i]? = some (some v) → ∃ u, RelV v u ∧ s.heap.IsCell c (some u))) : IG (Cxat X s Hc) s (At gf) gf pins σ (unt L Hc) s := by
  have hO : ∀ b ∈ L, ∃ o, sO.heap.get? b = some o ∧ s.heap.get? b = some o ∧ Hc b = some (XO b o) := fun b hb => by
    obtain ⟨_, o, h1, h2⟩ := hL b hb
    have h3 := pre.own _ h2
    exact ⟨o, h1, xo_get pre.env.hok h3, h3⟩
  have lt : X.env.locals ≤ s.heap.objs.size := by
    obtain ⟨o, _, h, _⟩ := hO _ hloc
    exact Nat.le_of_lt (Heap.lt_size h)
  have cm : ∀ c, c ∈ L → ∀ v, sO.heap.IsCell c v → s.heap.IsCell c v := fun c hc v ⟨o, ho, hd⟩ => by
    obtain ⟨o', h1, h2, _⟩ := hO c hc
    rw [ho] at h1; cases h1
    exact ⟨o, h2, hd⟩
  have nin : ∀ b, b < X.env.locals → b ∉ L := fun b hb z => absurd (hL b z).1 (Nat.not_le.mpr hb)
  refine ⟨⟨at_ok S pre.env lt, rfl, AllBare.empty, ?_, ?_, fun x c e => ?_, unt_in hloc, fun x c e => ?_, fun p hp => ?_, hok_unt pre.env.hok fun b hb => ?_, ?_⟩, ⟨Nat.le_refl _, fun i x h _ _ => h, fun i x h => ?_⟩, pre.subs, fun p hp => .inl ⟨p, hp, rfl⟩, Nat.le_refl _⟩
  · refine ⟨fun b o e n _ _ => (cut_some e).2, fun b o e n _ _ => ⟨o.slots, (cut_some e).2⟩, fun b o e n _ => ?_, fun b o e _ => ⟨o, (cut_some e).2⟩, fun b xs e => ?_, fun b o u e => ?_, fun b ps e => ⟨#[], ?_⟩⟩
    · have hb := (cut_some e).1
      rw [unt_out (nin b hb)]
      exact (cutH_lt hb).symm.trans n
    · obtain ⟨hb, e⟩ := cutH_some e; rw [unt_out (nin b hb)]; exact e
    · obtain ⟨hb, e⟩ := cutH_some e; rw [unt_out (nin b hb)]; exact e
    · obtain ⟨hb, e⟩ := cutH_some e; rw [unt_out (nin b hb), e]; simp
  · obtain ⟨m, ⟨o, es, ep, ho, r⟩, hl⟩ := I.loc
    rw [ee] at ho
    obtain ⟨o', h1, h2, _⟩ := hO _ hloc
    have e : o = o' := Option.some.inj (ho.symm.trans h1)
    subst e
    refine ⟨m, ⟨o, es, ep, h2, r⟩, fun i x v e1 e2 e3 => ?_⟩
    obtain ⟨u, rv, l⟩ := hl i x v (by rw [eN]; exact e1) e2 (by rw [ee]; exact e3)
    rw [ee] at l
    rcases l with l | ⟨k, c, e, z⟩
    · exact ⟨u, rv, .inl l⟩
    · rcases hcells x c e with hc | ⟨_, _, hc⟩
      · exact ⟨u, rv, .inr ⟨k, c, e, cm c hc _ z⟩⟩
      · obtain ⟨u', rv', z'⟩ := hc i v e1 e2
        exact ⟨u', rv', .inr ⟨k, c, e, z'⟩⟩
  · rcases hcells x c e with hc | ⟨_, hc, _⟩
    · obtain ⟨v, z⟩ := I.cell x c (by rw [ee]; exact e)
      exact ⟨v, cm c hc v z⟩
    · exact hc
  · rcases hcells x c e with z | ⟨z, _⟩
    · exact unt_in z
    · unfold unt
      split
      · rfl
      · exact z
  · have hp' : p ∈ pins := by
      rcases List.mem_append.mp hp with z | z
      · exact absurd (show p ∈ X.pn from z) (by rw [S.pnn]; simp)
      · exact z
    obtain ⟨h1, h2, h3, h4, h5⟩ := I.pin p (List.mem_append_right _ hp')
    have hm := hpins p hp'
    obtain ⟨o, a1, a2, _⟩ := hO _ hm
    have e : p.2 = o := Option.some.inj (h1.symm.trans a1)
    exact ⟨by rw [e]; exact a2, unt_in hm, by rw [ee] at h3; exact h3, fun z => absurd (S.low _ z) (Nat.not_lt.mpr (hL _ hm).1), h5⟩
  · obtain ⟨o, _, _, h⟩ := hO b hb; exact ⟨o, h⟩
  · show σ.length = X.N.length
    rw [← eN]; exact I.len
  · by_cases hi : At gf i
    · exact .inr (.inr hi)
    · exact .inr (.inl ⟨h, hi⟩)
/-- A YIELD: it sleeps, its objects told -/
theorem sy_at {sw : Shared} {pins : List (Addr × Obj)} {σ : L2.St} {H : Hp} {sub : Sub} {L : List Addr} {tr : Own} {x : List V} {xs : List (List V)} {p : Addr} {k : Resume → Sem PySem.Fin} {l : List Value} {c : Code} {pos : Pos} {fs : List Frame} {cl : Bool}
    (S : Sta X A) (I : IG (Cxat X sw Hc) sw (At gf) sub pins σ H s)
    (hL : ∀ b ∈ L, X.env.locals ≤ b ∧ H b = none ∧ ∃ o, s.heap.get? b = some o) (hloc : X.env.locals ∈ L) (hpins : ∀ p ∈ pins, p.1 ∈ L)
    (htr : ∀ q ∈ tr, OkO q.2 ∧ H q.1 = some q.2 ∧ q.1 ≠ p ∧ Mem O Hc q.1) (hp : H p = some (.lst x)) (hps : Mem O Hc p) (hkp : Kp T Hc O H)
    (hcells : ∀ x c, X.env.cells.lookup x = some c → c ∈ L ∨ ∀ h2 H2, Sh h2 H2 → H2 c = none ∧ (∃ v, h2.IsCell c v) ∧ ∀ (i : Nat) v, X.N[i]? = some x → σ[i]? = some (some v) → ∃ u, RelV v u ∧ h2.IsCell c (some u))
    (cont : ∀ (s2 : Shared) (Hc2 : Hp), Pre (Cxgp X A g Sh T) (Cd (tell L s.heap H)) (xos L s.heap ++ tr) sub s2 Hc2 → IG (Cxat X s2 Hc2) s2 (At sub) sub pins σ (unt L Hc2) s2 →
      GenG (model X.prog X.w) A g (SY (Cxgp X A g Sh T) xs (xos L s.heap ++ tr) sub s2 Hc2) (SR (Cxgp X A g Sh T) xs (xos L s.heap ++ tr) sub s2 Hc2) c (k (.send .none)) fs s2) :
    SY (Cxgp X A g Sh T) (x :: xs) O gf sw Hc (.ref p) (.suspended k l c pos fs cl) s := by
  have nL : ∀ b o, H b = some o → b ∉ L := fun b o e z => by rw [(hL b z).2.1] at e; cases e
  have hk : HOk X.prog X.w H s.heap := I.inv.hok
  have un : Un X.fs X.ex (cutH X.env.locals Hc) H (cut X.env.locals sw.heap) s.heap := I.inv.base
  rw [S.exn] at un
  refine ⟨p, tell L s.heap H, xos L s.heap ++ tr, sub, rfl, trivial, by rw [tell_out (nL p _ hp)]; exact hp, hps, fun q hq => ?_, ⟨I.inv.os, ⟨un.keep, un.slot, fun b o e n hx => ?_, un.there, fun b ys e => ?_, fun b o u e => ?_, fun b ps e => ?_⟩, hok_tell hk fun b hb => ⟨(hL b hb).2.1, (hL b hb).2.2⟩, hkp.full fun b o e => by rw [tell_out (nL b _ e)]; exact e, fun q hq => ?_, fun q hq => ?_, I.hsz, I.gt, I.subs, I.new, fun q hq => ?_⟩, ?_⟩
  · rcases List.mem_append.mp hq with z | z
    · obtain ⟨h1, _⟩ := of_xos z
      exact fun e => nL p _ hp (by rw [← e]; exact h1)
    · exact (htr q z).2.2.1
  · rw [tell_out fun z => absurd (hL b z).1 (Nat.not_le.mpr (cut_some e).1)]
    exact un.free b o e n hx
  · have q := un.tups b ys e
    rw [tell_out (nL b _ q)]; exact q
  · have q := un.frzs b o u e
    rw [tell_out (nL b _ q)]; exact q
  · obtain ⟨more, q⟩ := un.tbls b ps e
    exact ⟨more, by rw [tell_out (nL b _ q)]; exact q⟩
  · rcases List.mem_append.mp hq with z | z
    · obtain ⟨h1, o, h2, h3⟩ := of_xos z
      rw [tell_in h1 h2, h3]
    · rw [tell_out (nL _ _ (htr q z).2.1)]; exact (htr q z).2.1
  · rcases List.mem_append.mp hq with z | z
    · exact hkp.mem (hL _ (of_xos z).1).2.1
    · exact (htr q z).2.2.2
  · rcases List.mem_append.mp hq with z | z
    · obtain ⟨_, o, _, h3⟩ := of_xos z
      rw [h3]; trivial
    · exact (htr q z).1
  · refine sleep_iff.mpr fun s2 Hc2 pre => ?_
    refine cont s2 Hc2 pre (rebase (X := X) (X0 := Cxat X sw Hc) S rfl rfl I.inv pre (fun b hb => ⟨(hL b hb).1, ?_⟩) hloc hpins fun x c e => (hcells x c e).imp id fun z => z _ _ pre.sh)
    obtain ⟨o, ho⟩ := (hL b hb).2.2
    exact ⟨o, ho, List.mem_append_left _ (mem_xos hb ho)⟩
/-- THE END -/
theorem sr_end {sw : Shared} {pins : List (Addr × Obj)} {σ : L2.St} {H : Hp} (S : Sta X A) (I : IG (Cxat X sw Hc) sw (At gf) [] pins σ H s) (hkp : Kp T Hc O H) :
    SR (Cxgp X A g Sh T) [] O gf sw Hc s := by
  have un : Un X.fs X.ex (cutH X.env.locals Hc) H (cut X.env.locals sw.heap) s.heap := I.inv.base
  rw [S.exn] at un
  exact ⟨H, I.inv.os, un, I.inv.hok, hkp, fun _ z => by simp at z, fun _ z => by simp at z, I.hsz, I.gt, I.subs, fun _ z => by simp at z, fun _ z => by simp at z⟩
end
end NwG
end
section
/-! Waking a generator: next, by its contract; what the consumer knows behind it. -/
namespace NwG
open PySem PySem.Spec PyProof.Rows L2 NwB NwM
/-- the generator object at a, of number g; no delegator sleeps over it -/
def GenAt (h : Heap) (a : Addr) (g : Nat) : Prop := ∃ o nm qn, h.get? a = some o ∧ o.cls = .type "generator" ∧ o.data = .fields #[.int g 0, nm, qn] ∧ ∀ n t, o.slots[0]? = some (some (.int n t)) → n ≤ 0
theorem GenAt.typeIs {s : Shared} {a : Addr} {g : Nat} (x : GenAt s.heap a g) : s.TypeIs (.ref a) "generator" := let ⟨o, _, _, ho, hc, _⟩ := x; ⟨o, ho, hc⟩
section
variable {P : Program} {w : World} {A : Around} {E : Value → Shared → Prop} {s : Shared}
theorem codeG_builtin {id : String} {args : Args} {b : Builtin} {R : Result → Shared → Prop} (hp : plainId id = true) (hb : entryFor table id = some b)
    (h : wpG (model P w) A.in1 (b args) (fun fin s' => match fin with | .done f => R (.ok f) s' | .again c' => c'.quiet = true ∧ codeG (model P w) A c' R s') (fun e s' => R (.error e) s') s) : codeG (model P w) A (.builtin id args) R s := by
  refine codeG_of_tree ?_
  have e : (model P w).den (.builtin id args) = b args := by
    show (match entryFor table id with | some b => b args | none => unsupported ((withoutEnding? id "#data").getD id)) = b args
    rw [hb]
  rw [e, Around.under_plainId hp args]
  exact h
theorem wpG_slot {T : String} {name : PySem.Str} {id : String} {b : Builtin} {self : Value} {rest : List Value} {Q : Value → Shared → Prop} (h : Slot T name id) (hT : s.TypeIs self T) (hb : entryFor table id = some b)
    (hc : wpG (model P w) A.in1 (b ⟨self :: rest, []⟩) (fun fin s' => ∃ v, fin = .done (.ret v) ∧ Q v s') E s) (ha : argsOk id ⟨self :: rest, []⟩ := by rfl) : wpG (model P w) A (PySem.call (.builtin id) (self :: rest)) Q E s := by
  refine wpG_call (codeG_of_tree ?_)
  have e : (model P w).den (.call (.builtin id) ⟨self :: rest, []⟩) = (checkBuiltinCall id ⟨self :: rest, []⟩ >>= fun _ => again (.builtin id ⟨self :: rest, []⟩)) := rfl
  rw [e]
  refine wpG_bind (wpG_of (h.check _ _ _ _ _ _ _ _ hT ha ?_))
  refine wpG_pure ⟨plainId_quiet h.plain _, codeG_builtin h.plain hb (wpG_mono hc (fun fin s' hq => ?_) fun _ _ z => z)⟩
  obtain ⟨v, rfl, q⟩ := hq
  exact q
theorem wpG_genNumber {a : Addr} {g : Nat} {Q : Nat → Shared → Prop} (hg : GenAt s.heap a g) (h : Q g s) : wpAny (model P w) A (Builtin.Generator.genNumber (.ref a)) Q E s := by
  obtain ⟨o, nm, qn, ho, _, hd, hsl⟩ := hg
  unfold Builtin.Generator.genNumber
  refine wpAny_bind (wpAny_load ho ?_)
  have fin : wpAny (model P w) A (match o.data with
      | .fields vs => match (vs[0]? : Option Value) with
        | some (Value.int i _) => pure i.toNat
        | _ => unsupported "internal:generator-number"
      | _ => unsupported "internal:no-fields") Q E s := by
    rw [hd]
    show wpAny _ A (pure ((g : Int).toNat)) Q E s
    rw [Int.toNat_natCast]; exact wpAny_pure h
  generalize hq : (o.slots[0]? : Option (Option Value)) = q at hsl ⊢
  rcases q with _ | _ | v
  · exact fin
  · exact fin
  · cases v with
    | int n t =>
      show wpAny _ A (if n > 0 then _ else _) Q E s
      rw [if_neg (Int.not_lt.mpr (hsl _ _ rfl))]
      exact fin
    | _ => exact fin
/-- the exception that ends an iterator, just made -/
theorem raise_stop {α β : Type} {f : α → Sem β} {Q : β → Shared → Prop} (hh : A.handled = none) (hE : ∀ e h', (∀ b o, s.heap.get? b = some o → h'.get? b = some o) → s.heap.objs.size ≤ h'.objs.size → StopX e h' → E e { s with heap := h' }) : wpAny (model P w) A (newExc (.type "StopIteration") [] >>= fun x => (raiseNew x : Sem α) >>= f) Q E s := by
  simp only [newExc, newTuple, bind_assoc]
  refine wpAny_bind (wpAny_newObj_type ?_ (by size_fits))
  refine wpAny_bind (m := firstArgMember _ _) (wpAny_of_eq (a := Value.none) (by first | rfl | (simp only [firstArgMember]; rfl)) (wpAny_bind (wpAny_newObj_type ?_ (by size_fits))))
  simp only [raiseNew]
  refine wpAny_bind (wpAny_bind (wpAny_handled ?_))
  rw [hh]
  refine wpAny_bind (wpAny_pure (wpAny_throw ?_))
  exact hE _ _ (fun b o hb => Heap.get?_push_of_some _ (Heap.get?_push_of_some _ hb)) (by rw [Heap.size_push, Heap.size_push]; exact Nat.le_trans (Nat.le_succ _) (Nat.le_succ _)) ⟨_, _, _, rfl, Heap.get?_push_size _ rfl, rfl, rfl, rfl⟩
/-- next, by its slot -/
theorem wpG_special_next {a : Addr} {g : Nat} {gs : GenState} {Y : Value → GenState → Shared → Prop} {R : Shared → Prop} {Q : Option Value → Shared → Prop} (hh : A.handled = none) (hl : s.heap.NoLimit) (hroom : A.depth < recursionLimit) (hg : GenAt s.heap a g) (hgs : s.gens[g]? = some gs)
    (hgo : GoOn (model P w) A.in1 g Y R gs (s.setGen g .running)) (hY : ∀ v gs' s', Y v gs' s' → Q (some v) (s'.setGen g gs'))
    (hR : ∀ s', R s' → ∀ e h', (∀ b o, s'.heap.get? b = some o → h'.get? b = some o) → s'.heap.objs.size ≤ h'.objs.size → StopX e h' → E e { s'.setGen g .finished with heap := h' }) : wpG (model P w) A (callSpecial? (.ref a) "__next__") Q E s := by
  have hT := hg.typeIs (s := s)
  simp only [callSpecial?]
  refine wpG_bind (wpG_of (wpAny_specialOf (name := Str.ofString "__next__") hT slot_gen_next.lookup ?_))
  simp only [slot_gen_next.bind]
  refine wpG_holding (wpG_bind (wpG_pure (wpG_bind (wpG_mono (wpG_slot (Q := fun v => Q (some v)) (rest := []) slot_gen_next hT entry_gen_next ?_ (args_gen_next _)) (fun v s' z => wpG_pure z) fun _ _ z => z))))
  show wpG _ A.in1 (Builtin.Generator.genWake (.ref a) (.send .none)) _ _ s
  unfold Builtin.Generator.genWake
  refine wpG_bind (wpG_holding (wpG_of (wpG_genNumber hg ?_)))
  refine wpG_bind (wpG_of (wpAny_genState hgs ?_))
  cases gs with
  | running => exact hgo.elim
  | finished => exact hgo.elim
  | _ =>
    refine wpG_bind (wpG_of (wpAny_roomToWake hl hroom ?_))
    show wpG _ A.in1 (.resume g (.send .none) [] _) _ _ s
    refine wpG_resume hgs hgo (fun v gs' s' hy => wpG_pure ⟨v, rfl, hY v gs' s' hy⟩) fun s' hr => ?_
    show wpG _ A.in1 (newExc (.type "StopIteration") [] >>= _) _ _ _
    exact wpG_of (raise_stop (A := A.in1) hh fun e h' k sz st => hR s' hr e h' k sz st)
end
end NwG
end
section
/-! The consumer's side: its own state behind a turn of its generator. -/
namespace NwG
open PySem PySem.Spec PyProof.Rows L2 NwB NwM
/-- how the consumer's frame lies to its generator's -/
structure Geo (X : Cx) (G : Gp) (pins : List (Addr × Obj)) : Prop where
  P : G.P = X.prog
  w : G.w = X.w
  K : G.K = X.K
  mg : G.mg = X.mg
  base : G.base = X.base
  outer : G.outer = X.stack
  frames : G.A.frames = some X.stack
  ex : X.ex = []
  loc : X.env.locals < G.n0
  cells : ∀ x c, X.env.cells.lookup x = some c → c < G.n0
  pins : ∀ p ∈ X.pn ++ pins, p.1 < G.n0
section
variable {X : Cx} {G : Gp} {pins : List (Addr × Obj)} {σ : L2.St} {H H' : Hp} {s s0 s' : Shared} {O O' : Own} {gf gf' : Sub} {D : Cds}
theorem inv_aft (geo : Geo X G pins) (I : Inv X pins σ H (re s0 #[])) (hh : s.heap = s0.heap) (ho : s.os = s0.os) (pre : Pre G D O gf s H) (a : Aft G O gf s H O' gf' s' H') : Inv X pins σ H' (re s' #[]) := by
  have un : Un (frs X.stack) [] (cutH G.n0 H) H' (cut G.n0 s0.heap) s'.heap := by
    have u := a.un
    rw [geo.outer, hh] at u
    exact u
  have isz : X.s_0.heap.objs.size ≤ X.env.locals := I.ok.above
  have low : ∀ b o, X.s_0.heap.get? b = some o → b < G.n0 := fun b o e => Nat.lt_trans (Nat.lt_of_lt_of_le (Heap.lt_size e) isz) geo.loc
  have nloc : ∀ b o, X.s_0.heap.get? b = some o → b ≠ X.env.locals := fun b o e => Nat.ne_of_lt (Nat.lt_of_lt_of_le (Heap.lt_size e) isz)
  have nst : ∀ b, b ≠ X.env.locals → b ∉ X.fs → b ∉ frs X.stack := fun b h1 h2 z => (List.mem_cons.mp (I.stkSub b z)).elim h1 h2
  have kp : ∀ b o, b < G.n0 → s0.heap.get? b = some o → H b = none → b ∉ frs X.stack → s'.heap.get? b = some o := fun b o hb e n hf => un.keep b o ((cut_lt hb).trans e) ((cutH_lt hb).trans n) hf (by simp)
  have any : ∀ b o, b < G.n0 → s0.heap.get? b = some o → H b = none → ∃ sl, s'.heap.get? b = some { o with slots := sl } := fun b o hb e n => un.any ((cut_lt hb).trans e) ((cutH_lt hb).trans n) (by simp)
  have fr : ∀ b o, b < G.n0 → s0.heap.get? b = some o → H b = none → H' b = none := fun b o hb e n => un.free b o ((cut_lt hb).trans e) ((cutH_lt hb).trans n) (by simp)
  have ext : ∀ b o, ¬ OkO o → ((∀ t ∈ G.T, t.1 ≠ b) ∨ ∀ ps, o ≠ .tbl ps) → H b = some o → H' b = some o := fun b o ho nt e => a.kp.ext b o nt e fun p hp z => ho (by
    have q := pre.own p hp
    rw [z, e] at q
    rw [Option.some.inj q]
    exact pre.kind p hp)
  have cellK : ∀ x c, X.env.cells.lookup x = some c → ∀ v, s0.heap.IsCell c v → s'.heap.IsCell c v := fun x c e v ⟨o, ho, hd⟩ => by
    obtain ⟨sl, q⟩ := any c o (geo.cells x c e) ho (I.freeC x c e)
    exact ⟨_, q, hd⟩
  refine ⟨I.ok, a.os.trans (ho.trans I.os), AllBare.empty, ⟨fun b o e n hb hx => ?_, fun b o e n hb hx => ?_, fun b o e n hx => ?_, fun b o e hx => ?_, fun b xs e => ext b _ (fun z => z) (.inr fun _ z => nomatch z) (I.base.tups b xs e), fun b o u e => ext b _ (fun z => z) (.inr fun _ z => nomatch z) (I.base.frzs b o u e), fun b ps e => ?_⟩, ?_, fun x c e => ?_, ?_, fun x c e => ?_, fun p hp => ?_, ?_, I.len⟩
  · exact kp b o (low b o e) (I.base.keep b o e n hb hx) (I.base.free b o e n hx) (nst b (nloc b o e) hb)
  · obtain ⟨sl, e1⟩ := I.base.slot b o e n hb hx
    obtain ⟨sl', e2⟩ := any b _ (low b o e) e1 (I.base.free b o e n hx)
    exact ⟨sl', e2⟩
  · obtain ⟨o', e1⟩ := I.base.there b o e hx
    exact fr b o' (low b o e) e1 (I.base.free b o e n hx)
  · obtain ⟨o', e1⟩ := I.base.there b o e hx
    exact un.there b o' ((cut_lt (low b o e)).trans e1) (by simp)
  · obtain ⟨more, e1⟩ := I.base.tbls b ps e
    by_cases hm : ∃ t ∈ G.T, t.1 = b
    · obtain ⟨m2, e2⟩ := a.kp.tbl b _ hm e1
      exact ⟨more ++ m2, by rw [e2, Array.append_assoc]⟩
    · exact ⟨more, ext b _ (fun z => z) (.inl fun t ht z => hm ⟨t, ht, z⟩) e1⟩
  · obtain ⟨m, ⟨o, es, ep, ho, r⟩, hl⟩ := I.loc
    obtain ⟨sl, q⟩ := any _ o geo.loc ho I.free
    refine ⟨m, ⟨_, es, ep, q, r⟩, fun i x v e1 e2 e3 => ?_⟩
    obtain ⟨u, rv, l⟩ := hl i x v e1 e2 e3
    refine ⟨u, rv, ?_⟩
    rcases l with l | ⟨k, c, e, z⟩
    · exact .inl l
    · exact .inr ⟨k, c, e, cellK x c e _ z⟩
  · obtain ⟨v, z⟩ := I.cell x c e
    exact ⟨v, cellK x c e v z⟩
  · obtain ⟨m, ⟨o, es, ep, ho, r⟩, hl⟩ := I.loc
    exact fr _ o geo.loc ho I.free
  · obtain ⟨v, o, ho, hd⟩ := I.cell x c e
    exact fr c o (geo.cells x c e) ho (I.freeC x c e)
  · obtain ⟨e, n, ne, nf, d⟩ := I.pin p hp
    exact ⟨kp p.1 p.2 (geo.pins p hp) e n (nst p.1 ne nf), fr p.1 p.2 (geo.pins p hp) e n, ne, nf, d⟩
  · have := a.hok
    rw [geo.P, geo.w] at this
    exact this
/-- the consumer holds the generator g in the state gs, whose own sleeping ones are gi -/
structure CG (X : Cx) (T0 : Shared) (gf : Nat → Prop) (g : Nat) (gs : GenState) (gi : Sub) (pins : List (Addr × Obj)) (σ : L2.St) (H : Hp) (s : Shared) : Prop where
  inv : Inv X pins σ H (re s #[])
  gt : GT T0.gens s.gens gf (fun i => i = g ∨ At gi i)
  at_ : s.gens[g]? = some gs
  subs : Subs gi s.gens
  gne : ∀ p ∈ gi, p.1 ≠ g
  new : gf g ∨ T0.gens.size ≤ g
  news : ∀ p ∈ gi, gf p.1 ∨ T0.gens.size ≤ p.1
  hsz : T0.heap.objs.size ≤ s.heap.objs.size
variable {T0 : Shared} {gc : Nat → Prop} {gs gs' : GenState}
theorem setGen_ne {s : Shared} {g i : Nat} {x : GenState} (h : i ≠ g) : (s.setGen g x).gens[i]? = s.gens[i]? := by
  show (s.gens.setIfInBounds g x)[i]? = _
  rw [Array.getElem?_setIfInBounds_ne (Ne.symm h)]
theorem setGen_eq {s : Shared} {g : Nat} {x y : GenState} (h : s.gens[g]? = some y) : (s.setGen g x).gens[g]? = some x := L2.setGen_at (Array.getElem?_eq_some_iff.mp h).1
theorem cg_pre (geo : Geo X G pins) (c : CG X T0 gc G.g gs gf pins σ H s) (hsh : G.Sh s.heap H) (own : ∀ p ∈ O, H p.1 = some p.2) (kind : ∀ p ∈ O, OkO p.2) (code : ∀ c o, D c o → H c = some o) : Pre G D O gf (s.setGen G.g .running) H where
  kind := kind
  code := code
  env := by
    have e := c.inv.env0
    rw [geo.P, geo.w, geo.K, geo.mg, geo.base, geo.outer]
    exact ⟨geo.frames, e.mod, e.bs, e.bsz, e.funs, e.frf, e.hok, e.bare⟩
  sh := hsh
  own := own
  subs := fun p hp => ⟨(setGen_ne (c.gne p hp)).trans (c.subs p hp).1, (c.subs p hp).2⟩
  run := setGen_eq c.at_
  gne := c.gne
/-- THE TURN: behind it -/
theorem aft_CG (geo : Geo X G pins) (c : CG X T0 gc G.g gs gf pins σ H s) (pre : Pre G D O gf (s.setGen G.g .running) H) (a : Aft G O gf (s.setGen G.g .running) H O' gf' s' H') : CG X T0 gc G.g gs' gf' pins σ H' (s'.setGen G.g gs') := by
  have hsz : s.gens.size ≤ s'.gens.size := by
    have := a.gt.size
    rw [GenW.setGen_size] at this
    exact this
  have hg : G.g < s.gens.size := (Array.getElem?_eq_some_iff.mp c.at_).1
  have hrun : s'.gens[G.g]? = some s'.gens[G.g] := Array.getElem?_eq_getElem (Nat.lt_of_lt_of_le hg hsz)
  have gnew : ∀ p ∈ gf', At gf p.1 ∨ s.gens.size ≤ p.1 := fun p hp => by
    have := a.gnew p hp
    rw [GenW.setGen_size] at this
    exact this
  have gne : ∀ p ∈ gf', p.1 ≠ G.g := fun p hp => by
    rcases gnew p hp with ⟨q, h1, h2⟩ | h
    · rw [← h2]; exact c.gne q h1
    · omega
  have g2 : GT s.gens (s'.setGen G.g gs').gens (fun i => i = G.g ∨ At gf i) (fun i => i = G.g ∨ At gf' i) := by
    refine ⟨by rw [GenW.setGen_size]; exact hsz, fun i x h hb hn => ?_, fun i x h => ?_⟩
    · have n1 : i ≠ G.g := fun z => hn (.inl z)
      rw [setGen_ne n1]
      exact a.gt.kept i x ((setGen_ne n1).trans h) hb fun z => hn (.inr z)
    · by_cases n1 : i = G.g
      · exact .inr (.inr (.inl n1))
      · rw [setGen_ne n1] at h
        rcases a.gt.bare i x h with z | ⟨z, n⟩ | z
        · exact .inl z
        · exact .inr (.inl ⟨(setGen_ne n1).symm.trans z, fun y => y.elim n1 n⟩)
        · exact .inr (.inr (.inr z))
  refine ⟨inv_aft (s := s.setGen G.g .running) (s' := s') geo c.inv rfl rfl pre a, ?_, setGen_eq hrun, fun p hp => ⟨(setGen_ne (gne p hp)).trans (a.subs p hp).1, (a.subs p hp).2⟩, gne, c.new, fun p hp => ?_, Nat.le_trans c.hsz a.size⟩
  · refine (c.gt.trans g2 fun i hi => ?_).imp fun i hi => ?_
    · rcases hi with rfl | ⟨p, h1, rfl⟩
      · exact c.new
      · exact c.news p h1
    · rcases hi with ⟨z, n⟩ | z
      · exact (n z).elim
      · exact z
  · rcases gnew p hp with ⟨q, h1, h2⟩ | h
    · rw [← h2]; exact c.news q h1
    · exact .inr (Nat.le_trans c.gt.size h)
/-- it has ended -/
theorem CG.fin {g : Nat} (c : CG X T0 gc g .finished [] pins σ H s) : IG X T0 gc [] pins σ H s := by
  refine ⟨c.inv, ⟨c.gt.size, c.gt.kept, fun i x h => ?_⟩, fun _ z => by simp at z, fun _ z => by simp at z, c.hsz⟩
  rcases c.gt.bare i x h with z | z | z | ⟨_, z, _⟩
  · exact .inl z
  · exact .inr (.inl z)
  · subst z
    rw [c.at_] at h
    cases h
    exact .inl rfl
  · simp at z
/-- it sleeps -/
theorem CG.ig {g : Nat} {gi : Sub} (c : CG X T0 gc g gs gi pins σ H s) (hb : Begun gs) : IG X T0 gc ((g, gs) :: gi) pins σ H s := by
  refine ⟨c.inv, c.gt.imp fun i hi => ?_, fun p hp => ?_, fun p hp => ?_, c.hsz⟩
  · rcases hi with rfl | ⟨p, h1, h2⟩
    · exact ⟨_, List.mem_cons_self, rfl⟩
    · exact ⟨p, List.mem_cons_of_mem _ h1, h2⟩
  · rcases List.mem_cons.mp hp with rfl | hp
    · exact ⟨c.at_, hb⟩
    · exact c.subs p hp
  · rcases List.mem_cons.mp hp with rfl | hp
    · exact c.new
    · exact c.news p hp
theorem CG.of {g : Nat} {gi : Sub} (I : IG X T0 gc ((g, gs) :: gi) pins σ H s) (hne : ∀ p ∈ gi, p.1 ≠ g) : CG X T0 gc g gs gi pins σ H s where
  inv := I.inv
  gt := I.gt.imp fun i ⟨p, h1, h2⟩ => by
    rcases List.mem_cons.mp h1 with rfl | h1
    · exact .inl h2.symm
    · exact .inr ⟨p, h1, h2⟩
  at_ := (I.subs _ List.mem_cons_self).1
  subs := fun p hp => I.subs p (List.mem_cons_of_mem _ hp)
  gne := hne
  new := I.new _ List.mem_cons_self
  news := fun p hp => I.new p (List.mem_cons_of_mem _ hp)
  hsz := I.hsz
end
end NwG
end
section
/-! «yield from» over a generator, by the generator's contract. -/
namespace NwG
open PySem PySem.Spec PyProof.Rows L2 NwB NwM
/-- how often delegators sleep over it -/
def mark (o : Obj) : Int := match (o.slots[0]? : Option (Option Value)) with
  | some (some (Value.int n _)) => n
  | _ => 0
/-- a generator object of number g -/
structure GObj (o : Obj) (g : Nat) : Prop where
  cls : o.cls = .type "generator"
  data : ∃ nm qn, o.data = .fields #[.int g 0, nm, qn]
theorem GObj.at_ {h : Heap} {a : Addr} {o : Obj} {g : Nat} (x : GObj o g) (e : h.get? a = some o) (m : mark o ≤ 0) : GenAt h a g := by
  obtain ⟨nm, qn, d⟩ := x.data
  refine ⟨o, nm, qn, e, x.cls, d, fun n t q => ?_⟩
  unfold mark at m
  rw [q] at m
  exact m
theorem GObj.num {o : Obj} {g : Nat} (x : GObj o g) : o.genNumber? = some g := by
  obtain ⟨nm, qn, d⟩ := x.data
  unfold Obj.genNumber?
  rw [x.cls, d]
  rfl
theorem slept {M : Model} {A : Around} {E : Value → Shared → Prop} {s : Shared} {a : Addr} {o : Obj} {g : Nat} {more : Bool} {Q : Unit → Shared → Prop} (ho : s.heap.get? a = some o) (x : GObj o g)
    (h : ∀ h' o', h'.get? a = some o' → GObj o' g → mark o' = (if more then mark o + 1 else mark o - 1) → Heap.SameBut a s.heap h' → Q () { s with heap := h' }) : wpAny M A (Builtin.Generator.sleptOver (.ref a) more) Q E s := by
  unfold Builtin.Generator.sleptOver
  refine wpAny_bind (wpAny_load ho ?_)
  have e1 : (o.cls != .type "generator") = false := by rw [x.cls]; decide
  rw [e1]
  show wpAny M A (setSlotAt a 0 (some (rawInt (if more then mark o + 1 else mark o - 1)))) Q E s
  unfold setSlotAt
  rw [if_neg (by decide)]
  refine wpAny_bind (wpAny_pure (wpAny_updatePart ho ?_))
  obtain ⟨nm, qn, d⟩ := x.data
  refine h _ _ (Heap.get?_update_self _ ho (Obj.isFreed_of_fields d)) ⟨x.cls, nm, qn, d⟩ ?_ (Heap.SameBut.update ..)
  have gen : ∀ (o2 : Obj) (n : Int), o2.slots[0]? = some (some (rawInt n)) → mark o2 = n := fun o2 n e => by
    unfold mark
    rw [e]
    rfl
  refine gen _ _ ?_
  show ((o.slots ++ Array.replicate (0 + 1 - o.slots.size) none).setIfInBounds 0 (some (rawInt (if more then mark o + 1 else mark o - 1))))[0]? = some (some (rawInt (if more then mark o + 1 else mark o - 1)))
  rw [Array.getElem?_setIfInBounds_self, if_pos]
  simp only [Array.size_append, Array.size_replicate]
  omega
theorem close_gen : typeLookup (.type "generator") "close" = pure (some (.builtin "generator.close")) := by rw [typeLookup_type, builtinLookup_eq_fast]; kernel_rfl
abbrev yfCode (a : Addr) : Code := .builtin "proto.yield_from" ⟨[.ref a, .bool false, .none], []⟩
/-- what stays in view of a generator's frame, from its waking (with Hc) on: L: its own untracked objects; tr: what is tracked; av: what is others' -/
structure Fr (X : Cx) (T : List NdefX.NTab) (av : List Addr) (Df : Cds) (L : List Addr) (tr : Own) (Hc : Hp) (O : Own) (H : Hp) (s : Shared) : Prop where
  hL : ∀ b ∈ L, X.env.locals ≤ b ∧ H b = none ∧ ∃ o, s.heap.get? b = some o
  htr : ∀ q ∈ tr, OkO q.2 ∧ H q.1 = some q.2 ∧ Mem O Hc q.1
  kp : Kp T Hc O H
  avo : ∀ b ∈ av, Hc b ≠ none ∧ ∀ q ∈ O, q.1 ≠ b
  cdf : ∀ c o, Df c o → StO c o ∧ H c = some o
/-- the captured cells: the frame's own, or others' that hold the like through all -/
def Cel (X : Cx) (Sh : Heap → Hp → Prop) (L : List Addr) (σ : L2.St) : Prop := ∀ x c, X.env.cells.lookup x = some c → c ∈ L ∨ ∀ h2 H2, Sh h2 H2 → H2 c = none ∧ (∃ v, h2.IsCell c v) ∧ ∀ (i : Nat) v, X.N[i]? = some x → σ[i]? = some (some v) → ∃ u, RelV v u ∧ h2.IsCell c (some u)
section
variable {s sw : Shared} {Hc : Hp}
/-- the sub-generator's object and its own -/
structure Held (H : Hp) (a : Addr) (oa : Obj) (g : Nat) (Oi : Own) : Prop where
  obj : H a = some (XO a oa)
  gob : GObj oa g
  own : ∀ p ∈ Oi, H p.1 = some p.2
  kind : ∀ p ∈ Oi, OkO p.2
  ne : ∀ p ∈ Oi, p.1 ≠ a
theorem ig_write {sub : Sub} {pins : List (Addr × Obj)} {σ : L2.St} {H : Hp} {T0 : Shared} {gc : Nat → Prop} {Y : Cx} {a : Addr} {o o' : Obj} {h' : Heap} (I : IG Y T0 gc sub pins σ H s) (e : H a = some (XO a o)) (e' : h'.get? a = some o') (k : Heap.SameBut a s.heap h') :
    IG Y T0 gc sub pins σ (upd H a (XO a o')) { s with heap := h' } :=
  ⟨Inv.write (s := re s #[]) (h' := h') (t' := s.toks) I.inv (x := a) (e := a) (by rw [e]; trivial) (.inl rfl) (fun b u hb q => (k.2 b hb).trans q) ⟨o', e'⟩ (xo_ok e'), I.gt, I.subs, I.new, by show _ ≤ h'.objs.size; rw [k.1]; exact I.hsz⟩
theorem cg_write {pins : List (Addr × Obj)} {σ : L2.St} {H : Hp} {T0 : Shared} {gc : Nat → Prop} {Y : Cx} {a : Addr} {o o' : Obj} {h' : Heap} {gi : Nat} {gs : GenState} {sub : Sub} (I : CG Y T0 gc gi gs sub pins σ H s) (e : H a = some (XO a o)) (e' : h'.get? a = some o') (k : Heap.SameBut a s.heap h') :
    CG Y T0 gc gi gs sub pins σ (upd H a (XO a o')) { s with heap := h' } :=
  ⟨Inv.write (s := re s #[]) (h' := h') (t' := s.toks) I.inv (x := a) (e := a) (by rw [e]; trivial) (.inl rfl) (fun b u hb q => (k.2 b hb).trans q) ⟨o', e'⟩ (xo_ok e'), I.gt, I.at_, I.subs, I.gne, I.new, I.news, by show _ ≤ h'.objs.size; rw [k.1]; exact I.hsz⟩
end
end NwG
end
section
/-! The turns of «yield from» over a generator. -/
namespace NwG
open PySem PySem.Spec PyProof.Rows L2 NwB NwM
section
variable {X : Cx} {A : Around} {g : Nat} {Sh : Heap → Hp → Prop} {O : Own} {gf : Sub} {s sw : Shared} {Hc H H' : Hp} {L : List Addr} {tr : Own} {av : List Addr} {Df : Cds} {T : List NdefX.NTab}
theorem ig_kept {Y : Cx} {T0 : Shared} {gc : Nat → Prop} {sub : Sub} {pins : List (Addr × Obj)} {σ : L2.St} {h' : Heap} (I : IG Y T0 gc sub pins σ H s) (k : ∀ b u, s.heap.get? b = some u → h'.get? b = some u) (hs : s.heap.objs.size ≤ h'.objs.size) : IG Y T0 gc sub pins σ H { s with heap := h' } :=
  ⟨Inv.kept (s := re s #[]) (h' := h') (t' := s.toks) I.inv k, I.gt, I.subs, I.new, Nat.le_trans I.hsz hs⟩
theorem fr_kept {h' : Heap} (F : Fr X T av Df L tr Hc O H s) (k : ∀ b u, s.heap.get? b = some u → h'.get? b = some u) : Fr X T av Df L tr Hc O H { s with heap := h' } :=
  ⟨fun b hb => let ⟨a1, a2, ⟨o, a3⟩⟩ := F.hL b hb; ⟨a1, a2, ⟨o, k b o a3⟩⟩, F.htr, F.kp, F.avo, F.cdf⟩
theorem fr_upd {a : Addr} {o o' : Obj} {h' : Heap} (F : Fr X T av Df L tr Hc O H s) (e : H a = some (XO a o)) (hn : ∀ q ∈ tr, q.1 ≠ a) (hm : Mem O Hc a) (k : Heap.SameBut a s.heap h') : Fr X T av Df L tr Hc O (upd H a (XO a o')) { s with heap := h' } where
  hL := fun b hb => by
    obtain ⟨a1, a2, ⟨ob, a3⟩⟩ := F.hL b hb
    have hne : b ≠ a := fun z => by rw [z, e] at a2; cases a2
    exact ⟨a1, by rw [upd_ne hne]; exact a2, ⟨ob, (k.2 b hne).trans a3⟩⟩
  htr := fun q hq => by
    obtain ⟨a1, a2, a3⟩ := F.htr q hq
    exact ⟨a1, by rw [upd_ne (hn q hq)]; exact a2, a3⟩
  kp := F.kp.xo e hm
  avo := F.avo
  cdf := fun c q h => by
    obtain ⟨st, z⟩ := F.cdf c q h
    rw [upd_ne fun y => ?_]
    · exact ⟨st, z⟩
    · rw [y, e] at z
      exact xo_st st (Option.some.inj z).symm
theorem fr_aft {G : Gp} {Oi O' : Own} {gi gf' : Sub} {sr s' : Shared} (F : Fr X T av Df L tr Hc O H s) (hr : sr.heap = s.heap) (hT : G.T = T) (a : Aft G Oi gi sr H O' gf' s' H') (hLn : ∀ b ∈ L, b < G.n0) (hOi : ∀ q ∈ Oi, Mem O Hc q.1) (hd : ∀ q ∈ tr, ∀ p ∈ Oi, p.1 ≠ q.1) :
    Fr X T av Df L tr Hc O H' s' where
  hL := fun b hb => by
    obtain ⟨a1, a2, ⟨ob, a3⟩⟩ := F.hL b hb
    have e : (cut G.n0 sr.heap).get? b = some ob := by rw [hr]; exact (cut_lt (hLn b hb)).trans a3
    exact ⟨a1, a.un.free b ob e ((cutH_lt (hLn b hb)).trans a2) (by simp), a.un.there b ob e (by simp)⟩
  htr := fun q hq => by
    obtain ⟨a1, a2, a3⟩ := F.htr q hq
    exact ⟨a1, a.kp.ext _ _ (.inr fun ps z => by rw [z] at a1; exact a1) a2 (hd q hq), a3⟩
  kp := F.kp.aft (by rw [← hT]; exact a.kp) hOi
  avo := F.avo
  cdf := fun c q h => ⟨(F.cdf c q h).1, a.kp.code c q (F.cdf c q h).1 (F.cdf c q h).2⟩
/-- at a waking: what was told stands -/
theorem fr_woken {G : Gp} {sub : Sub} {s2 : Shared} {Hc2 : Hp} {tr' : Own} (F : Fr X T av Df L tr Hc O H s) (pre : Pre G (Cd (tell L s.heap H)) (xos L s.heap ++ tr') sub s2 Hc2) (hs : ∀ q ∈ tr, q ∈ tr') (hm : ∀ q ∈ tr', Mem O Hc q.1) (hav : ∀ b ∈ av, Hc2 b ≠ none) :
    Fr X T av Df L tr Hc2 (xos L s.heap ++ tr') (unt L Hc2) s2 where
  hL := fun b hb => by
    obtain ⟨a1, a2, ⟨ob, a3⟩⟩ := F.hL b hb
    have hm := List.mem_append_left tr' (mem_xos hb a3)
    exact ⟨a1, unt_in hb, ⟨ob, xo_get pre.env.hok (pre.own _ hm)⟩⟩
  htr := fun q hq => by
    obtain ⟨a1, a2, a3⟩ := F.htr q hq
    have hm := List.mem_append_right (xos L s.heap) (hs q hq)
    refine ⟨a1, ?_, .inl ⟨q, hm, rfl⟩⟩
    rw [unt_out fun z => ?_]
    · exact pre.own _ hm
    · rw [(F.hL _ z).2.1] at a2; cases a2
  kp := Kp.unt fun b hb => by
    obtain ⟨ob, a3⟩ := (F.hL b hb).2.2
    have hm := List.mem_append_left tr' (mem_xos hb a3)
    exact ⟨⟨ob, pre.own _ hm⟩, _, hm, rfl⟩
  avo := fun b hb => by
    obtain ⟨a1, a2⟩ := F.avo b hb
    refine ⟨hav b hb, fun q hq e => ?_⟩
    rcases List.mem_append.mp hq with z | z
    · have hn := (F.hL _ (of_xos z).1).2.1
      rw [e] at hn
      rcases F.kp.mem hn with ⟨r, r1, r2⟩ | r
      · exact a2 r r1 r2
      · exact a1 r
    · rcases hm q z with ⟨r, r1, r2⟩ | r
      · exact a2 r r1 (r2.trans e)
      · rw [e] at r; exact a1 r
  cdf := fun c q h => by
    obtain ⟨st, z⟩ := F.cdf c q h
    have hcL : c ∉ L := fun y => by rw [(F.hL c y).2.1] at z; cases z
    rw [unt_out hcL]
    exact ⟨st, pre.code c q ⟨st, by rw [tell_out hcL]; exact z⟩⟩
end
end NwG
end
section
/-! The rule of «yield from» over a generator. -/
namespace NwG
open PySem PySem.Spec PyProof.Rows L2 NwB NwM
structure YS (X : Cx) (A : Around) (Sh : Heap → Hp → Prop) (T : List NdefX.NTab) (av : List Addr) (Df : Cds) (L : List Addr) (tr : Own) (a : Addr) (pins : List (Addr × Obj)) (σ : L2.St) (fs : List Frame) (n0 : Nat) (ShI : Heap → Hp → Prop) : Prop where
  S : Sta X A
  sp : splitAtGen fs = none
  gu : fs.any Frame.guarded = false
  hd : (A.over (yfCode a) fs).handled = none
  dp : (A.over (yfCode a) fs).depth < recursionLimit
  fr : (A.over (yfCode a) fs).frames = some X.stack
  loc : X.env.locals ∈ L
  pin : ∀ p ∈ pins, p.1 ∈ L
  cel : Cel X Sh L σ
  hav : ∀ h H, Sh h H → ∀ b ∈ av, H b ≠ none
  low : ∀ b ∈ L, b < n0
  cells : ∀ x c, X.env.cells.lookup x = some c → c < n0
  shi : ∀ (sw : Shared) (Hc : Hp) (O : Own) (H : Hp) (s : Shared), Sh sw.heap Hc → Inv (Cxat X sw Hc) pins σ H (re s #[]) → Fr X T av Df L tr Hc O H s → ShI s.heap H
/-- the inner generator, as «yield from» wakes it -/
abbrev yG (X : Cx) (A : Around) (a : Addr) (fs : List Frame) (n0 gn : Nat) (ShI : Heap → Hp → Prop) (T : List NdefX.NTab) : Gp := ⟨X.prog, X.w, X.K, X.mg, X.base, (A.over (yfCode a) fs).in1, X.stack, n0, gn, ShI, T⟩
section
variable {X : Cx} {A : Around} {g : Nat} {Sh : Heap → Hp → Prop} {L : List Addr} {tr : Own} {av : List Addr} {Df : Cds} {T : List NdefX.NTab} {a : Addr} {pins : List (Addr × Obj)} {σ : L2.St} {fs : List Frame} {n0 gn : Nat} {ShI : Heap → Hp → Prop}
theorem YS.geo (y : YS X A Sh T av Df L tr a pins σ fs n0 ShI) (sw : Shared) (Hc : Hp) : Geo (Cxat X sw Hc) (yG X A a fs n0 gn ShI T) pins where
  P := rfl
  w := rfl
  K := rfl
  mg := rfl
  base := rfl
  outer := rfl
  frames := y.fr
  ex := y.S.exn
  loc := y.low _ y.loc
  cells := y.cells
  pins := fun p hp => by
    rcases List.mem_append.mp hp with z | z
    · exact absurd (show p ∈ X.pn from z) (by rw [y.S.pnn]; simp)
    · exact y.low _ (y.pin p z)
theorem yf_loop {rest : List (List V)} (y : YS X A Sh T av Df L tr a pins σ fs n0 ShI)
    (hend : ∀ (sw : Shared) (Hc : Hp) (O : Own) (gf : Sub) (H : Hp) (s : Shared), Sh sw.heap Hc → IG (Cxat X sw Hc) sw (At gf) [] pins σ H s → Fr X T av Df L tr Hc O H s →
      GenG (model X.prog X.w) A g (SY (Cxgp X A g Sh T) rest O gf sw Hc) (SR (Cxgp X A g Sh T) rest O gf sw Hc) (yfCode a) (.pure (.done (.ret .none))) fs s) :
    ∀ (zs : List (List V)) (D : Cds) (sw : Shared) (Hc : Hp) (O : Own) (gf : Sub) (H : Hp) (s : Shared) (gs : GenState) (gi : Sub) (Oi : Own) (oa : Obj), Sh sw.heap Hc → CG (Cxat X sw Hc) sw (At gf) gn gs gi pins σ H s → Fr X T av Df L tr Hc O H s → Held H a oa gn Oi → mark oa ≤ 0 →
      (∀ q ∈ (a, XO a oa) :: Oi, Mem O Hc q.1) → (∀ q ∈ tr, q.1 ≠ a ∧ ∀ p ∈ Oi, p.1 ≠ q.1) → (∀ c o, D c o → H c = some o) → Sleep (yG X A a fs n0 gn ShI T) zs D Oi gi gs →
      GenG (model X.prog X.w) A g (SY (Cxgp X A g Sh T) (zs ++ rest) O gf sw Hc) (SR (Cxgp X A g Sh T) (zs ++ rest) O gf sw Hc) (yfCode a) ((model X.prog X.w).den (yfCode a)) fs s := by
  intro zs
  induction zs with
  | nil =>
    intro Dc sw Hc O gf H s gs gi Oi oa hsh C F D hm hmem hdis hcd hsl
    have ga : GenAt s.heap a gn := D.gob.at_ (xo_get C.inv.hok D.obj) hm
    have pre : Pre (yG X A a fs n0 gn ShI T) Dc Oi gi (s.setGen gn .running) H := cg_pre (y.geo sw Hc) C (y.shi sw Hc O H s hsh C.inv F) D.own D.kind hcd
    rw [den_yf]
    unfold Builtin.«proto.yield_from»
    try dsimp only
    refine gg_bind (wpG_pure ?_)
    try dsimp only
    refine gg_bind (wpG_attempt (wpG_holding ?_))
    rw [if_neg Bool.false_ne_true, if_pos (by rfl)]
    refine wpG_bind (wpG_of (wpAny_rule (wpG_bind ?_)))
    refine wpG_special_next y.hd C.inv.nolimit y.dp ga C.at_ (hsl _ _ pre) (fun v gs' s' z => z.elim) fun s' hr e h' k sz st => ?_
    obtain ⟨H', af⟩ := hr
    have C' := aft_CG (gs' := .finished) (y.geo sw Hc) C pre af
    have I' := ig_kept (h' := h') C'.fin k sz
    have F' := fr_kept (s := s') (h' := h') (fr_aft F (sr := s.setGen gn .running) rfl rfl af y.low (fun q hq => hmem q (List.mem_cons_of_mem _ hq)) fun q hq => (hdis q hq).2) k
    obtain ⟨ea, oe, vs, rfl, hoa, hcls, hdat, h5⟩ := st
    try dsimp only
    refine gg_bind (wpG_of (wpAny_endsTurn (s := { s'.setGen gn .finished with heap := h' }) hoa hcls ?_))
    try dsimp only
    rw [if_pos rfl, if_neg Bool.false_ne_true]
    first
      | refine gg_bind (wpG_of (wpAny_rule ?_))
      | (refine gg_bind (wpG_pure ?_); refine gg_bind (wpG_of (wpAny_rule ?_)))
    refine gg_bind (wpG_of (wpAny_field (s := { s'.setGen gn .finished with heap := h' }) hoa hdat h5 ?_))
    exact hend sw Hc O gf H' _ hsh I' ⟨F'.hL, F'.htr, F'.kp, F'.avo, F'.cdf⟩
  | cons z zs ih =>
    intro Dc sw Hc O gf H s gs gi Oi oa hsh C F D hm hmem hdis hcd hsl
    have ga : GenAt s.heap a gn := D.gob.at_ (xo_get C.inv.hok D.obj) hm
    have pre : Pre (yG X A a fs n0 gn ShI T) Dc Oi gi (s.setGen gn .running) H := cg_pre (y.geo sw Hc) C (y.shi sw Hc O H s hsh C.inv F) D.own D.kind hcd
    rw [den_yf]
    unfold Builtin.«proto.yield_from»
    try dsimp only
    refine gg_bind (wpG_pure ?_)
    try dsimp only
    refine gg_bind (wpG_attempt (wpG_holding ?_))
    rw [if_neg Bool.false_ne_true, if_pos (by rfl)]
    refine wpG_bind (wpG_of (wpAny_rule (wpG_bind ?_)))
    refine wpG_special_next y.hd C.inv.nolimit y.dp ga C.at_ (hsl _ _ pre) (fun v gs' s' hy => ?_) fun s' hr => hr.elim
    obtain ⟨p, H', O', gf', rfl, hbg, hp, hps, hpO, af, hsl'⟩ := hy
    have C' := aft_CG (gs' := gs') (y.geo sw Hc) C pre af
    have F' := fr_aft F (sr := s.setGen gn .running) rfl rfl af y.low (fun q hq => hmem q (List.mem_cons_of_mem _ hq)) fun q hq => (hdis q hq).2
    have ea : H' a = some (XO a oa) := af.kp.ext a _ (.inr fun _ z => nomatch z) D.obj fun q hq => D.ne q hq
    have hoa : s'.heap.get? a = some oa := xo_get af.hok ea
    have mems : ∀ b, Mem Oi H b → b ≠ a ∧ Mem O Hc b ∧ ∀ q ∈ tr, b ≠ q.1 := fun b hb => by
      rcases hb with ⟨r, r1, r2⟩ | r
      · exact ⟨by rw [← r2]; exact D.ne r r1, by rw [← r2]; exact hmem r (List.mem_cons_of_mem _ r1), fun q hq => by rw [← r2]; exact (hdis q hq).2 r r1⟩
      · refine ⟨fun e => ?_, F.kp.mem r, fun q hq e => ?_⟩
        · rw [e, D.obj] at r; cases r
        · rw [e, (F.htr q hq).2.1] at r; cases r
    have hpa : p ≠ a := (mems p hps).1
    refine wpG_pure ?_
    try dsimp only
    refine gg_bind (wpG_of (wpAny_typeOf (T := "generator") (s := s'.setGen gn gs') ⟨oa, hoa, D.gob.cls⟩ ?_))
    try dsimp only
    first
      | (refine gg_bind (wpG_of (wpAny_of_eq close_gen ?_)); refine gg_bind (wpG_pure ?_))
      | refine gg_bind (wpG_of (wpAny_bind (wpAny_of_eq close_gen (wpAny_pure ?_))))
      | refine gg_bind (wpG_of (wpAny_of_eq close_gen ?_))
    try dsimp only
    refine gg_bind (wpG_of (slept (s := s'.setGen gn gs') hoa D.gob fun h1 o1 ho1 gb1 m1 k1 => ?_))
    try dsimp only
    show GenG _ A g _ _ _ (.yield (.ref p) true [] _) fs _
    have m1' : mark o1 = mark oa + 1 := m1
    have C1 := cg_write C' ea ho1 k1
    have F1 := fr_upd (s := s'.setGen gn gs') (h' := h1) (o' := o1) ⟨F'.hL, F'.htr, F'.kp, F'.avo, F'.cdf⟩ ea (fun q hq => (hdis q hq).1) (hmem _ List.mem_cons_self) k1
    have I1 := C1.ig hbg
    have hne : ∀ q ∈ O', q.1 ≠ a := fun q hq => (mems q.1 (af.new q hq)).1
    have hmem' : ∀ q ∈ O', Mem O Hc q.1 := fun q hq => (mems q.1 (af.new q hq)).2.1
    have hdis' : ∀ q ∈ tr, ∀ p ∈ O', p.1 ≠ q.1 := fun q hq r hr => (mems r.1 (af.new r hr)).2.2 q hq
    refine gg_yieldF y.sp y.gu ho1 gb1.num fun pos => ?_
    refine sy_at (L := L) (tr := tr ++ (a, XO a o1) :: O') y.S I1 F1.hL y.loc y.pin (fun q hq => ?_) (by rw [upd_ne hpa]; exact hp) (mems p hps).2.1 F1.kp y.cel fun s2 Hc2 pre2 I2 => ?_
    · rcases List.mem_append.mp hq with h | h
      · obtain ⟨a1, a2, a3⟩ := F1.htr q h
        exact ⟨a1, a2, Ne.symm ((mems p hps).2.2 q h), a3⟩
      · rcases List.mem_cons.mp h with rfl | h
        · exact ⟨trivial, upd_same, Ne.symm hpa, hmem (a, XO a oa) List.mem_cons_self⟩
        · exact ⟨af.kind q h, by rw [upd_ne (hne q h)]; exact af.own q h, hpO q h, hmem' q h⟩
    · show GenG _ A g _ _ _ (Builtin.Generator.sleptOver (.ref a) false >>= fun _ => _) fs s2
      have F2 := fr_woken F1 pre2 (fun q hq => List.mem_append_left _ hq) (fun q hq => by
        rcases List.mem_append.mp hq with h | h
        · exact (F1.htr q h).2.2
        · rcases List.mem_cons.mp h with rfl | h
          · exact hmem (a, XO a oa) List.mem_cons_self
          · exact hmem' q h) (y.hav _ _ pre2.sh)
      have tl : ∀ q ∈ tr ++ (a, XO a o1) :: O', unt L Hc2 q.1 = some q.2 := fun q hq => by
        rw [unt_out fun hz => ?_]
        · exact pre2.own _ (List.mem_append_right _ hq)
        · have hn := (F1.hL _ hz).2.1
          rcases List.mem_append.mp hq with h | h
          · rw [(F1.htr q h).2.1] at hn; cases hn
          · rcases List.mem_cons.mp h with rfl | h
            · rw [upd_same] at hn; cases hn
            · rw [upd_ne (hne q h), af.own q h] at hn; cases hn
      have e2 : unt L Hc2 a = some (XO a o1) := tl _ (List.mem_append_right _ List.mem_cons_self)
      refine gg_bind (wpG_of (slept (s := s2) (xo_get I2.inv.hok e2) gb1 fun h3 o3 ho3 gb3 m3 k3 => ?_))
      try dsimp only
      have m3' : mark o3 = mark o1 - 1 := m3
      have I3 := ig_write I2 e2 ho3 k3
      have hmO : ∀ q ∈ (a, XO a o1) :: O', ∃ r ∈ xos L ({ s'.setGen gn gs' with heap := h1 } : Shared).heap ++ (tr ++ (a, XO a o1) :: O'), r.1 = q.1 := fun q hq => ⟨q, List.mem_append_right _ (List.mem_append_right _ hq), rfl⟩
      have F3 := fr_upd (s := s2) (h' := h3) (o' := o3) F2 e2 (fun q hq => (hdis q hq).1) (.inl (hmO _ List.mem_cons_self)) k3
      refine gg_bind (wpG_pure ?_)
      refine gg_again (plainId_quiet plain_yf _) ?_
      refine ih (Cd H') s2 Hc2 _ _ _ _ gs' gf' O' o3 pre2.sh (CG.of I3 C'.gne) F3 ⟨upd_same, gb3, fun q hq => ?_, af.kind, hne⟩ (by omega) (fun q hq => ?_) (fun q hq => ⟨(hdis q hq).1, hdis' q hq⟩) (fun c q h => ?_) hsl'
      · rw [upd_ne (hne q hq)]
        exact tl q (List.mem_append_right _ (List.mem_cons_of_mem _ hq))
      · rcases List.mem_cons.mp hq with rfl | hq
        · exact .inl (hmO (a, XO a o1) List.mem_cons_self)
        · exact .inl (hmO q (List.mem_cons_of_mem _ hq))
      · obtain ⟨st, h⟩ := h
        have hca : c ≠ a := fun e => by
          rw [e, ea] at h
          exact xo_st st (Option.some.inj h).symm
        have h1 : upd H' a (XO a o1) c = some q := by rw [upd_ne hca]; exact h
        have hcL : c ∉ L := fun z => by rw [(F1.hL c z).2.1] at h1; cases h1
        rw [upd_ne hca, unt_out hcL]
        exact pre2.code c q ⟨st, by rw [tell_out hcL]; exact h1⟩
end
end NwG
end
section
/-! A generator's body, statement by statement. -/
namespace NwG
open PySem PySem.Spec PyProof.Rows L2 NwB NwM
section
variable {M : Model} {A : Around} {g : Nat} {Y : Value → GenState → Shared → Prop} {R : Shared → Prop} {c : Code} {fs : List Frame} {s : Shared} {env : Env}
  {K : Flow → Sem PySem.Fin} {J : Value → Sem PySem.Fin} {gd : Bool → Bool} {lv : List Value → List Value}
theorem gg_execs_nil (h : GenG M A g Y R c (K .next) fs s) : GenG M A g Y R c ((execs [] env).wrap K J gd lv) fs s := h
theorem gg_execs_cons {st : Stmt} {rest : List Stmt} (h : GenG M A g Y R c ((exec st env).wrap (fun f => match f with | .next => (execs rest env).wrap K J gd lv | f => K f) J gd lv) fs s) : GenG M A g Y R c ((execs (st :: rest) env).wrap K J gd lv) fs s := by
  rw [execs_cons_wrap]; exact h
theorem gg_If {test : Expr} {body orelse : List Stmt} {pos : Pos}
    (h : wpG M (A.over c fs) (isTrue test env (eval test env)) (fun b s' => GenG M A g Y R c ((execs (if b = true then body else orelse) env).wrap K J gd lv) fs s') Emp s) : GenG M A g Y R c ((exec (.If test body orelse pos) env).wrap K J gd lv) fs s := by
  rw [exec_If]
  refine gg_bind_wrap (wpG_of (wpAny_standAt ?_))
  refine gg_bind_wrap (wpG_mono h (fun b s' q => ?_) fun _ _ z => z.elim)
  cases b with
  | true => exact q
  | false => exact q
theorem gg_Yield {e : Expr} {yp pos : Pos} (hfs : splitAtGen fs = none) (hgd : gd false = false) (hfg : fs.any Frame.guarded = false) (hco : env.scope.isCoroutine = false := by rfl) (hi : interactive env = false := by rfl)
    (h : wpG M (A.over c fs) (eval e env) (fun v s' => ∀ (k : Resume → Sem PySem.Fin) (l : List Value) (p : Pos), (∀ T, T = k (.send .none) → T = K .next) → Y v (.suspended k l c p fs false) s') Emp s) :
    GenG M A g Y R c ((exec (.Expr (.Yield (some e) yp) pos) env).wrap K J gd lv) fs s := by
  rw [exec_Expr env _ pos hi rfl]
  show GenG M A g Y R c (.at pos fun _ => ((eval e env >>= fun v => (standAt yp >>= fun _ => yieldOut env v)) >>= fun x => dropValue (.Yield (some e) yp) pos x).wrap K J gd lv) fs s
  have hy : yieldOut env = yieldValue := funext fun v => by unfold yieldOut; rw [hco]; rfl
  rw [hy]
  refine gg_at ?_
  rw [Sem.bind_eq_wrap', Sem.bind_eq_wrap', Sem.wrap_wrap, Sem.wrap_wrap]
  refine gg_wrap (wpG_mono h (fun v s' h' => ?_) fun _ _ z => z.elim)
  refine gg_at ?_
  show GenG M A g Y R c (.yield v (gd false) _ _) fs s'
  rw [hgd]
  refine gg_yield hfs hfg fun p => h' _ _ p fun T e => e.trans ?_
  rfl
/-- the code of a def -/
theorem gg_func {P : Program} {w : World} {body : List Stmt}
    (h : GenG (model P w) A g Y R (.func body env) ((execs body env).wrap (fun f => .pure (.done (.ret (match f with | .ret v => v | _ => .none)))) (fun e => (leaving env e).wrap (fun _ => .raise e) .raise id id) id id) fs s) :
    GenG (model P w) A g Y R (.func body env) ((model P w).den (.func body env)) fs s := by
  show GenG _ A g Y R _ (.point [] fun _ => ((execs body env).onRaise (leaving env)) >>= _) fs s
  refine gg_point ?_
  have e : ((execs body env).onRaise (leaving env) >>= fun f => match f with | .ret v => ret v | _ => ret .none) = (execs body env).wrap (fun f => .pure (.done (.ret (match f with | .ret v => v | _ => .none)))) (fun e => (leaving env e).wrap (fun _ => .raise e) .raise id id) id id := by
    rw [Sem.onRaise_eq_wrap, Sem.bind_eq_wrap', Sem.wrap_wrap]
    refine Sem.wrap_congr _ _ _ (fun f => ?_) fun e => ?_
    · cases f <;> rfl
    · rw [Sem.bind_eq_wrap, Sem.wrap_wrap]; rfl
  exact e ▸ h
theorem gg_YieldFrom {P : Program} {w : World} {Y : Value → GenState → Shared → Prop} {e : Expr} {yp pos : Pos} (hgd : gd false = false) (hi : interactive env = false := by rfl)
    (h : wpG (model P w) (A.over c fs) (eval e env) (fun v s' => ∃ a gn, v = .ref a ∧ s'.heap.IsGen a gn ∧ ∀ (k : Result → Sem PySem.Fin) (l : List Value) (p : Pos), (∀ T, T = k (.ok (.ret .none)) → T = K .next) →
      GenG (model P w) A g Y R (yfCode a) ((model P w).den (yfCode a)) (.ret k none false l c p [] :: fs) s') Emp s) : GenG (model P w) A g Y R c ((exec (.Expr (.YieldFrom e yp) pos) env).wrap K J gd lv) fs s := by
  rw [exec_Expr env _ pos hi rfl]
  show GenG _ A g Y R c (.at pos fun _ => ((eval e env >>= fun v => (standAt yp >>= fun _ => yieldFrom env v)) >>= fun x => dropValue (.YieldFrom e yp) pos x).wrap K J gd lv) fs s
  refine gg_at ?_
  rw [bind_assoc]
  refine gg_bind_wrap (wpG_mono h (fun v s' hv => ?_) fun _ _ z => z.elim)
  obtain ⟨a, gn, rfl, hg, hk⟩ := hv
  refine gg_at ?_
  show GenG _ A g Y R c ((yieldFrom env (.ref a) >>= fun x => dropValue (.YieldFrom e yp) pos x).wrap K J gd lv) fs s'
  unfold yieldFrom
  rw [bind_assoc]
  refine gg_bind_wrap (wpG_of (wpAny_typeOf hg.typeIs ?_))
  rw [if_neg (by decide), bind_assoc]
  refine gg_bind_wrap (wpG_of (wpAny_holding (wpAny_pyIter_gen hg ?_)))
  show GenG _ A g Y R c (.call (yfCode a) none (gd false) _ _) fs s'
  rw [hgd]
  refine gg_call fun p => hk _ _ p fun T e => e.trans ?_
  rfl
theorem gg_For {tg iter : Expr} {body : List Stmt} {pos : Pos} (hgd : gd false = false) (hs : ∀ x, foldedSetIterable iter env x = pure x := by intro _; rfl)
    (h : wpG M (A.over c fs) (eval iter env) (fun x s1 => wpG M (A.over c fs) (pyIter x) (fun it s2 => ∀ (k : Result → Sem PySem.Fin) (l : List Value) (p : Pos), (∀ T, T = k (.ok .next) → T = K .next) →
      GenG M A g Y R (.forLoop tg it body [] env) (M.den (.forLoop tg it body [] env)) (.ret k none false l c p [] :: fs) s2) Emp s1) Emp s) : GenG M A g Y R c ((exec (.For tg iter body [] pos) env).wrap K J gd lv) fs s := by
  rw [exec_For]
  refine gg_bind_wrap (wpG_of (wpAny_standAt ?_))
  refine gg_bind_wrap (wpG_mono h (fun x s1 h1 => ?_) fun _ _ z => z.elim)
  rw [hs x]
  refine gg_bind_wrap (wpG_pure ?_)
  refine gg_bind_wrap (wpG_of (wpAny_standAt ?_))
  refine gg_bind_wrap (wpG_holding (wpG_mono h1 (fun it s2 h2 => ?_) fun _ _ z => z.elim))
  show GenG M A g Y R c (.call _ none (gd false) _ _) fs s2
  rw [hgd]
  refine gg_call fun p => h2 _ _ p fun T e => e.trans ?_
  rfl
theorem gg_forTurn {P : Program} {w : World} {Y : Value → GenState → Shared → Prop} {tg : Expr} {it : Value} {body : List Stmt}
    (h : wpG (model P w) (A.over (.forLoop tg it body [] env) fs) (pyNext it) (fun r s1 => match r with
      | none => GenG (model P w) A g Y R (.block [] env) (leafOf (.ok .next)) fs s1
      | some v => wpG (model P w) (A.over (.forLoop tg it body [] env) fs) (letOwnedTupleGo tg it v) (fun _ s1' => wpG (model P w) (A.over (.forLoop tg it body [] env) fs) (assign tg env v) (fun _ s2 => ∀ J,
          GenG (model P w) A g Y R (.forLoop tg it body [] env) ((execs body env).wrap (fun f => match f with
            | .next | .cont => .pure (.again (.forLoop tg it body [] env))
            | .brk => .pure (.done .next)
            | .ret v => .pure (.done (.ret v))) J id id) fs s2) Emp s1') Emp s1) Emp s) : GenG (model P w) A g Y R (.forLoop tg it body [] env) ((model P w).den (.forLoop tg it body [] env)) fs s := by
  show GenG _ A g Y R _ ((forTurn tg it body [] env).onRaise fun x => do noteFrame x env; theTreesLotGoes x) fs s
  unfold forTurn
  rw [Sem.onRaise_eq_wrap]
  refine gg_bind_wrap (wpG_of (wpAny_standAt ?_))
  refine gg_bind_wrap (wpG_onRaise (wpG_mono h (fun r s1 h1 => ?_) fun _ _ z => z.elim))
  cases r with
  | none =>
    refine gg_again rfl ?_
    exact h1
  | some v =>
    refine gg_bind_wrap (wpG_mono h1 (fun _ s1' h2 => ?_) fun _ _ z => z.elim)
    refine gg_bind_wrap (wpG_mono h2 (fun _ s2 h3 => ?_) fun _ _ z => z.elim)
    rw [Sem.bind_eq_wrap', Sem.wrap_wrap]
    rw [Sem.wrap_congr (execs body env) _ _ (K' := fun f => match f with
            | .next | .cont => .pure (.again (.forLoop tg it body [] env))
            | .brk => .pure (.done .next)
            | .ret v => .pure (.done (.ret v))) (fun f => by cases f <;> rfl) (fun e => rfl)]
    exact h3 _
end
end NwG
end
section
/-! extended: its text, its frame, its making. -/
namespace NwG
open PySem PySem.Spec PyProof.Rows L2 NwB NwM NdefX LamX
def scExt : Scope := { kind := .function, names := [("beginning", .local), ("number", .local), ("extended", .free), ("width", .free), ("len", .globalImplicit), ("list", .globalImplicit), ("range", .globalImplicit)], isGenerator := true, isCoroutine := false, more := [] }
def bTry (p : Nat → Pos) : Expr := .Call (.Name "extended" (p 20)) [.List [.Starred (.Name "beginning" (p 21)) (p 22), .Name "number" (p 23)] (p 24)] [] (p 25)
def bTurn (p : Nat → Pos) : List Stmt := [.If (.Compare (.Name "number" (p 17)) [.NotIn] [.Name "beginning" (p 18)] (p 19)) [.Expr (.YieldFrom (bTry p) (p 26)) (p 27)] [] (p 28)]
def bRange (p : Nat → Pos) : Expr := .Call (.Name "range" (p 11)) [.Constant (.int 1) 0 (p 12), .BinOp (.Name "width" (p 13)) .Add (.Constant (.int 1) 0 (p 14)) (p 15)] [] (p 16)
def bTest (p : Nat → Pos) : Expr := .Compare (.Call (.Name "len" (p 0)) [.Name "beginning" (p 1)] [] (p 2)) [.Eq] [.Name "width" (p 3)] (p 4)
def bList (p : Nat → Pos) : Expr := .Call (.Name "list" (p 5)) [.Name "beginning" (p 6)] [] (p 7)
def bExt (p : Nat → Pos) : List Stmt := [.If (bTest p) [.Expr (.Yield (some (bList p)) (p 8)) (p 9)] [.For (.Name "number" (p 10)) (bRange p) (bTurn p) [] (p 29)] (p 30)]
abbrev nE : List PySem.Str := ["beginning", "width", "extended", "number"]
def fE (p : Nat → Pos) (q : PySem.Str) (ar : Arguments) (cl : List (PySem.Str × Addr)) (c : Addr) : NF := ⟨"extended", q, ar, bExt p, scExt, cl, c⟩
/-- what holds throughout -/
structure ExS (P : Program) (w : World) (K : PySem.W.Frag) (mg : PySem.Str → Option Value) (base : Heap) (F : NF) (f : Addr) (c1 c2 : Addr) (W : Nat) : Prop where
  mod : Mod K mg base
  len_ : mg "len" = none
  list_ : mg "list" = none
  range_ : mg "range" = none
  W : W ≤ 1000
  text : ∃ p q ar cl c, F = fE p q ar cl c
  w1 : F.cl.lookup ("width" : PySem.Str) = some c1
  w2 : F.cl.lookup ("extended" : PySem.Str) = some c2
  only : ∀ x c, F.cl.lookup x = some c → (x = "width" ∧ c = c1) ∨ (x = "extended" ∧ c = c2)
  ne : c1 ≠ c2
  bind : ∀ doc pm ctv u, bindArgs (F.fd doc pm ctv) ⟨[u], []⟩ = pure [(("beginning" : PySem.Str), u)]
def shE (F : NF) (f c1 c2 : Addr) (W : Nat) : Heap → Hp → Prop := fun h H => H c1 = none ∧ (∃ t, h.IsCell c1 (some (.int W t))) ∧ H c2 = none ∧ h.IsCell c2 (some (.ref f)) ∧ H f = some (FnO f F) ∧ H F.c = some (CodeO F.c F.qual)
def xE (P : Program) (w : World) (K : PySem.W.Frag) (mg : PySem.Str → Option Value) (base : Heap) (F : NF) (f : Addr) (s0 : Shared) (A : Around) (outer : List Env) (n : Addr) : Cx where
  prog := P
  w := w
  K := K
  mg := mg
  base := base
  A := A.deeper (envF F f n)
  N := nE
  s_0 := s0
  H_0 := fun _ => none
  env := envF F f n
  outer := outer
  stack := envF F f n :: outer
  ex := []
  fn := fun _ => false
  calm := true
  pn := []
  xe := fun _ _ => False
section
variable {P : Program} {w : World} {K : PySem.W.Frag} {mg : PySem.Str → Option Value} {base : Heap} {F : NF} {f c1 c2 : Addr} {W : Nat} {s0 : Shared} {A : Around} {outer : List Env} {n : Addr}
theorem sta_E (x : ExS P w K mg base F f c1 c2 W) (hd : A.handled = none) (hf : A.frames = some outer) (hb : base.objs.size ≤ n) (hl : ∀ b ∈ frs outer, b < n) : Sta (xE P w K mg base F f s0 A outer n) A where
  mod := x.mod
  kind := by obtain ⟨p, q, ar, cl, c, rfl⟩ := x.text; rfl
  glob := rfl
  blt := rfl
  inj := fun y z c h1 h2 => by
    rcases x.only y c h1 with ⟨a1, a2⟩ | ⟨a1, a2⟩ <;> rcases x.only z c h2 with ⟨b1, b2⟩ | ⟨b1, b2⟩
    · rw [a1, b1]
    · exact absurd (a2.symm.trans b2) x.ne
    · exact absurd (b2.symm.trans a2) x.ne
    · rw [a1, b1]
  has := fun y hy => by
    have w1 := x.w1
    have w2 := x.w2
    obtain ⟨p, q, ar, cl, c, rfl⟩ := x.text
    have hy : scExt.names.lookup y = some .cell ∨ scExt.names.lookup y = some .free := hy
    rcases hy with hy | hy
    · have := PySem.mem_of_lookup hy
      revert this
      simp [scExt]
    · have := PySem.mem_of_lookup hy
      simp only [scExt, List.mem_cons, Prod.mk.injEq, reduceCtorEq, and_false, false_or, and_true, List.mem_nil_iff, or_false] at this
      rcases this with rfl | rfl
      · exact ⟨_, w2⟩
      · exact ⟨_, w1⟩
  cab := fun y c h _ => absurd (show false = true from h) (by simp)
  hd := hd
  dep := rfl
  stk := rfl
  fr := rfl
  exn := rfl
  pnn := rfl
  frames := hf
  bsz := hb
  low := hl
  xe := fun _ _ z => z
end
/-- woken for the first time -/
theorem wake0 {X : Cx} {A : Around} {g : Nat} {Sh : Heap → Hp → Prop} {T : List NTab} {D : Cds} {O : Own} {gf : Sub} {s : Shared} {Hc : Hp} {on : Obj} {σ : L2.St} {m : PySem.Str → Option Value} (S : Sta X A) (pre : Pre (Cxgp X A g Sh T) D O gf s Hc) (hO : (X.env.locals, XO X.env.locals on) ∈ O)
    (hon : ∀ h : Heap, h.get? X.env.locals = some on → h.Ns X.env.locals m) (hl : ∀ (i : Nat) (x : PySem.Str) (v : V), X.N[i]? = some x → σ[i]? = some (some v) → Vis X.env.scope x → ∃ u, RelV v u ∧ Look X.env s.heap m x u)
    (hcell : ∀ x c, X.env.cells.lookup x = some c → Hc c = none ∧ ∃ v, s.heap.IsCell c v) (len : σ.length = X.N.length) : IG (Cxat X s Hc) s (At gf) gf [] σ (unt [X.env.locals] Hc) s := by
  have e := pre.own _ hO
  have eo := xo_get pre.env.hok e
  have lt : X.env.locals ≤ s.heap.objs.size := Nat.le_of_lt (Heap.lt_size eo)
  have nin : ∀ b, b < X.env.locals → b ∉ [X.env.locals] := fun b hb z => absurd (List.mem_singleton.mp z) (Nat.ne_of_lt hb)
  refine ⟨⟨at_ok S pre.env lt, rfl, AllBare.empty, ⟨fun b o e n _ _ => (cut_some e).2, fun b o e n _ _ => ⟨o.slots, (cut_some e).2⟩, fun b o e n _ => ?_, fun b o e _ => ⟨o, (cut_some e).2⟩, fun b xs e => ?_, fun b o u e => ?_, fun b ps e => ⟨#[], ?_⟩⟩, ⟨m, hon _ eo, hl⟩,
    fun x c e => (hcell x c e).2, unt_in List.mem_cons_self, fun x c e => ?_, fun p hp => ?_, hok_unt pre.env.hok fun b hb => ?_, len⟩, ⟨Nat.le_refl _, fun i x h _ _ => h, fun i x h => ?_⟩, pre.subs, fun p hp => .inl ⟨p, hp, rfl⟩, Nat.le_refl _⟩
  · have hb := (cut_some e).1
    rw [unt_out (nin b hb)]
    exact (cutH_lt hb).symm.trans n
  · obtain ⟨hb, e⟩ := cutH_some e; rw [unt_out (nin b hb)]; exact e
  · obtain ⟨hb, e⟩ := cutH_some e; rw [unt_out (nin b hb)]; exact e
  · obtain ⟨hb, e⟩ := cutH_some e; rw [unt_out (nin b hb), e]; simp
  · unfold unt
    split
    · rfl
    · exact (hcell x c e).1
  · rcases List.mem_append.mp hp with z | z
    · exact absurd (show p ∈ X.pn from z) (by rw [S.pnn]; simp)
    · simp at z
  · rw [List.mem_singleton.mp hb]; exact ⟨on, e⟩
  · by_cases hi : At gf i
    · exact .inr (.inr hi)
    · exact .inr (.inl ⟨h, hi⟩)
/-- what a call of a generator def has made: its frame at n, itself at a, its number g -/
structure Made (Y : Cx) (pins : List (Addr × Obj)) (σ : L2.St) (H : Hp) (s : Shared) (n a : Addr) (g : Nat) (on oa : Obj) (s' : Shared) : Prop where
  inv : Inv Y pins σ (upd (upd H n (XO n on)) a (XO a oa)) s'
  nle : s.heap.objs.size ≤ n
  lt : n < a
  gle : s.gens.size ≤ g
  gl : g < s'.gens.size
  obj : GObj oa g
  is_ : s'.heap.IsGen a g
  mz : mark oa = 0
theorem made_of {Y : Cx} {pins : List (Addr × Obj)} {σ : L2.St} {H : Hp} {s : Shared} {h₁ : Heap} {tk : Nat} {on : Obj} {m : PySem.Str → Option Value} {c : Code} (I1 : Inv Y pins σ (upd H s.heap.objs.size (XO s.heap.objs.size on)) { s with heap := h₁, toks := tk }) (hlt : s.heap.objs.size < h₁.objs.size)
    (hm : ∀ h : Heap, h.get? s.heap.objs.size = some on → h.Ns s.heap.objs.size m) (go : Obj) (nm qn : Value) (tk2 : Nat) (hc : go.cls = .type "generator") (hd : go.data = .fields #[.int s.gens.size 0, nm, qn]) (hs : go.slots = #[]) (hp : ∀ h : Heap, (h.push go).get? h.objs.size = some go) :
    ∃ (n a : Addr) (g : Nat) (on oa : Obj), Value.ref h₁.objs.size = Value.ref a ∧ Made Y pins σ H s n a g on oa { s with gens := s.gens.push (.fresh c), toks := tk2, heap := h₁.push go } ∧ n = s.heap.objs.size ∧
      ({ s with gens := s.gens.push (.fresh c), toks := tk2, heap := h₁.push go } : Shared).gens[g]? = some (.fresh c) ∧ ∀ h : Heap, h.get? n = some on → h.Ns n m := by
  have k : ∀ b u, h₁.get? b = some u → (h₁.push go).get? b = some u := fun b u e => Heap.get?_push_of_some _ e
  have J := Inv.laid (s := { s with heap := h₁, toks := tk }) (h' := h₁.push go) (t' := tk2) (a := h₁.objs.size) (o := XO h₁.objs.size go) I1 k (Nat.le_refl _) (xo_ok (hp h₁))
  refine ⟨s.heap.objs.size, h₁.objs.size, s.gens.size, on, go, rfl, ⟨inv_bare (s := { s with heap := h₁.push go, toks := tk2 }) (T' := s.gens) (T := s.gens.push (.fresh c)) J (AllBare.push I1.bare rfl), Nat.le_refl _, hlt, Nat.le_refl _, ?_, ⟨hc, nm, qn, hd⟩, ⟨go, nm, qn, hp h₁, hc, hd, hs⟩, ?_⟩, rfl, Array.getElem?_push_size .., hm⟩
  · show _ < (s.gens.push _).size
    rw [Array.size_push]; exact Nat.lt_succ_self _
  · unfold mark
    rw [hs]
    rfl
theorem ext_call {Y : Cx} {pins : List (Addr × Obj)} {σ : L2.St} {H : Hp} {s : Shared} {P : Program} {w : World} {K : PySem.W.Frag} {mg : PySem.Str → Option Value} {base : Heap} {F : NF} {f c1 c2 pb : Addr} {W : Nat} {E : Value → Shared → Prop} (x : ExS P w K mg base F f c1 c2 W) (I : Inv Y pins σ H s)
    (hf : H f = some (FnO f F)) (hc : H F.c = some (CodeO F.c F.qual)) (hr : Y.A.depth < recursionLimit) : wpAny (model Y.prog Y.w) Y.A (PySem.call (.ref f) [.ref pb]) (fun u s' => ∃ n a g on oa, u = .ref a ∧ Made Y pins σ H s n a g on oa s' ∧
      n = s.heap.objs.size ∧ s'.gens[g]? = some (.fresh (.func F.body (envF F f s.heap.objs.size))) ∧ ∀ h : Heap, h.get? n = some on → h.Ns n fun y => [(("beginning" : PySem.Str), Value.ref pb)].reverse.lookup y) E s := by
  have lim : s.heap.NoLimit := I.nolimit
  have hco := codeO_at I.hok hc
  have hbd := x.bind
  obtain ⟨od, sl, doc, pm, ctv, ho⟩ := fnO_at I.hok hf
  obtain ⟨p, q, ar, cl, c, rfl⟩ := x.text
  refine wpAny_call (codeAny_call_generator hr ho rfl rfl rfl rfl hco ?_)
  rw [hbd]
  refine wpAny_pure (wpAny_newFunctionEnv (by show ∀ y ∈ scExt.names, y.2 ≠ .cell; decide +kernel) (fun y hy => ?_) (fun h₁ hns hsb => ⟨lim.fresh _ hsb, ?_⟩) rfl)
  · rw [List.mem_singleton.mp hy]
    rfl
  have kp : ∀ b o, s.heap.get? b = some o → h₁.get? b = some o := fun b o e => hsb.extBut b o (Nat.ne_of_lt (Heap.lt_size e)) (Heap.get?_push_of_some _ e)
  obtain ⟨on, es, ep, hon, hod⟩ := id hns
  have I1 := I.laid (t' := s.toks + 1) kp (Nat.le_refl _) (xo_ok (H := upd H s.heap.objs.size (XO s.heap.objs.size on)) hon)
  have hsz : h₁.objs.size = s.heap.objs.size + 1 := hsb.1.trans (Heap.size_push _ _)
  exact made_of I1 (by rw [hsz]; exact Nat.lt_succ_self _) (fun h e => ⟨on, es, ep, e, hod⟩) _ _ _ _ rfl rfl rfl fun h => Heap.get?_push_size _ rfl
end NwG
end
section
/-! extended: its expressions. -/
namespace NwG
open PySem PySem.Spec PyProof.Rows L2 NwB NwM NdefX LamX StX
theorem inV_int (i : Int) : ∀ ns : List Int, inV (.int i) (ns.map V.int) = decide (i ∈ ns)
  | [] => by simp [inV]
  | n :: ns => by
    have h := inV_int i ns
    unfold inV at h ⊢
    rw [List.map_cons, List.any_cons, h]
    show ((n == i) || decide (i ∈ ns)) = _
    by_cases e : i = n
    · subst e; simp
    · have e2 : (n == i) = false := beq_eq_false_iff_ne.mpr (Ne.symm e)
      rw [e2]; simp [e]
theorem flat_ints (ns : List Int) : (ns.map V.int).all flatV = true := by
  rw [List.all_eq_true]
  intro x hx
  obtain ⟨n, _, rfl⟩ := List.mem_map.mp hx
  rfl
theorem grows {α : Type} {M : Model} {A : Around} {s : Shared} {t : Sem α} {Q : α → Shared → Prop} {E : Value → Shared → Prop} (h : wpAny M A t Q E s) : wpAny M A t (fun a s' => s.heap.objs.size ≤ s'.heap.objs.size ∧ s.gens.size ≤ s'.gens.size ∧ Q a s') E s :=
  wpAny_mono (wpAny_hsz (GenW.wpAny_gsz (Q := fun v s' => s.gens.size ≤ s'.gens.size ∧ Q v s') (E := E) (Nat.le_refl _) (wpAny_mono h (fun v s' e h => ⟨h, e⟩) fun _ _ z _ => z))) (fun _ _ z => z) fun _ _ z => z.2
theorem line1000 {n : Nat} (h : n ≤ 2000) : n ≤ sizeLine := by have hs : sizeLine = 16777216 := sizeLine_eq; omega
section
variable {P : Program} {w : World} {K : PySem.W.Frag} {mg : PySem.Str → Option Value} {base : Heap} {f c1 c2 : Addr} {W : Nat} {s0 : Shared} {A : Around} {outer : List Env} {n : Addr} {p : Nat → Pos} {q : PySem.Str} {ar : Arguments} {cl : List (PySem.Str × Addr)} {c : Addr}
  {gf : Nat → Prop} {sub : Sub} {pins : List (Addr × Obj)} {H Hc : Hp} {s sw W0 : Shared} {pb : Addr} {beg : List Int} {z : Option V}
abbrev yE (P : Program) (w : World) (K : PySem.W.Frag) (mg : PySem.Str → Option Value) (base : Heap) (p : Nat → Pos) (q : PySem.Str) (ar : Arguments) (cl : List (PySem.Str × Addr)) (c : Addr) (f : Addr) (s0 : Shared) (A : Around) (outer : List Env) (n : Addr) (sw : Shared) (Hc : Hp) : Cx := Cxat (xE P w K mg base (fE p q ar cl c) f s0 A outer n) sw Hc
abbrev sE (pb : Addr) (W : Nat) (f : Addr) (z : Option V) : L2.St := [some (.ref pb), some (.int W), some (.ref f), z]
/-- len(beginning) == width -/
theorem ext_test (x : ExS P w K mg base (fE p q ar cl c) f c1 c2 W) (I : IG (yE P w K mg base p q ar cl c f s0 A outer n sw Hc) W0 gf sub pins (sE pb W f z) H s) (hb : H pb = some (.lst (beg.map V.int))) :
    wpG (model P w) (A.deeper (envF (fE p q ar cl c) f n)) (isTrue (bTest p) (envF (fE p q ar cl c) f n) (eval (bTest p) (envF (fE p q ar cl c) f n))) (fun b r => b = decide (beg.length = W) ∧ IG (yE P w K mg base p q ar cl c f s0 A outer n sw Hc) W0 gf sub pins (sE pb W f z) H r) Emp s := by
  refine wpG_mono (pt_G (X := yE P w K mg base p q ar cl c f s0 A outer n sw Hc) (Q := fun b H' => b = decide (beg.length = W) ∧ H' = H) (pt_cmpR op_eq (pe_callB call_len_seq (by rfl) x.len_ boot_len (pa_cons (pv 0) pa_nil)) (pv 1) (nomark _)) (fun _ _ z => z) I ?_) (fun b r ⟨H', J, e1, e2⟩ => ⟨e1, by subst e2; exact J⟩) fun _ _ z => z
  refine ⟨_, rfl, pb, beg.map V.int, rfl, .inl (SqL.of hb), _, rfl, rfl, _, rfl, ?_, rfl⟩
  rw [List.length_map]
  by_cases h : beg.length = W
  · rw [h]; simp
  · have h2 : ¬ ((beg.length : Int) = (W : Int)) := by omega
    simp [h, h2]
/-- list(beginning) -/
theorem ext_list (x : ExS P w K mg base (fE p q ar cl c) f c1 c2 W) (I : IG (yE P w K mg base p q ar cl c f s0 A outer n sw Hc) W0 gf sub pins (sE pb W f z) H s) (hb : H pb = some (.lst (beg.map V.int))) :
    wpG (model P w) (A.deeper (envF (fE p q ar cl c) f n)) (eval (bList p) (envF (fE p q ar cl c) f n)) (fun v r => ∃ l, v = .ref l ∧ H l = none ∧ IG (yE P w K mg base p q ar cl c f s0 A outer n sw Hc) W0 gf sub pins (sE pb W f z) (upd H l (.lst (beg.map V.int))) r) Emp s := by
  refine wpG_mono (pe_G (X := yE P w K mg base p q ar cl c f s0 A outer n sw Hc) (Q := fun v H' => ∃ l, v = .ref l ∧ H l = none ∧ H' = upd H l (.lst (beg.map V.int))) (pe_callTy call_list_of (by rfl) x.list_ (by decide +kernel) (pa_cons (pv 0) pa_nil)) (fun _ _ z => z) I ?_) (fun u r ⟨v, H', J, rv, l, e1, e2, e3⟩ => ?_) fun _ _ z => z
  · exact ⟨_, rfl, pb, beg.map V.int, rfl, .inl (SqL.of hb), fun l hl => ⟨l, rfl, hl, rfl⟩⟩
  · subst e1 e3
    exact ⟨l, rv, e2, J⟩
/-- number not in beginning -/
theorem ext_in (I : IG (yE P w K mg base p q ar cl c f s0 A outer n sw Hc) W0 gf sub pins (sE pb W f (some (.int i))) H s) (hb : H pb = some (.lst (beg.map V.int))) :
    wpG (model P w) (A.deeper (envF (fE p q ar cl c) f n)) (isTrue (.Compare (.Name "number" (p 17)) [.NotIn] [.Name "beginning" (p 18)] (p 19)) (envF (fE p q ar cl c) f n) (eval (.Compare (.Name "number" (p 17)) [.NotIn] [.Name "beginning" (p 18)] (p 19)) (envF (fE p q ar cl c) f n)))
      (fun b r => b = !decide (i ∈ beg) ∧ IG (yE P w K mg base p q ar cl c f s0 A outer n sw Hc) W0 gf sub pins (sE pb W f (some (.int i))) H r) Emp s := by
  refine wpG_mono (pt_G (X := yE P w K mg base p q ar cl c f s0 A outer n sw Hc) (Q := fun b H' => b = !decide (i ∈ beg) ∧ H' = H) (pt_cmpR op_notIn_seq (pv 3) (pv 0) (by rfl)) (fun _ _ z => z) I ?_) (fun b r ⟨H', J, e1, e2⟩ => ⟨e1, by subst e2; exact J⟩) fun _ _ z => z
  refine ⟨_, rfl, _, rfl, pb, beg.map V.int, rfl, .inl (SqL.of hb), rfl, flat_ints beg, _, rfl, ?_, rfl⟩
  rw [if_pos rfl, inV_int]
/-- range(1, width + 1) -/
theorem ext_range (x : ExS P w K mg base (fE p q ar cl c) f c1 c2 W) (I : IG (yE P w K mg base p q ar cl c f s0 A outer n sw Hc) W0 gf sub pins (sE pb W f z) H s) :
    wpG (model P w) (A.deeper (envF (fE p q ar cl c) f n)) (eval (bRange p) (envF (fE p q ar cl c) f n)) (fun v s1 => wpG (model P w) (A.deeper (envF (fE p q ar cl c) f n)) (pyIter v) (fun u r => ∃ it, u = .ref it ∧ H it = none ∧ n < it ∧ IsRangeIter r.heap it 1 W 1 ∧
      IG (yE P w K mg base p q ar cl c f s0 A outer n sw Hc) W0 gf sub pins (sE pb W f z) H r) Emp s1) Emp s := by
  have hW := x.W
  refine wpG_mono (emb (Q := fun v s' => ∃ rg t u v', v = .ref rg ∧ IsRange s'.heap rg 1 ((W : Int) + 1) 1 t u v' ∧ Inv (yE P w K mg base p q ar cl c f s0 A outer n sw Hc) pins (sE pb W f z) H s') (E := Emp) (fun T hT => ?_) (fun a s' ⟨_, _, _, _, _, _, J⟩ => J.bare) fun _ _ z => z) (fun v r hv => ?_) fun _ _ z => z
  · have I1 := inv_bare I.inv hT
    have ha : PA (yE P w K mg base p q ar cl c f s0 A outer n sw Hc) [.Constant (.int 1) 0 (p 12), .BinOp (.Name "width" (p 13)) .Add (.Constant (.int 1) 0 (p 14)) (p 15)] _ := pa_cons pe_int (pa_cons (pe_op op_add (pv 1) pe_int) pa_nil)
    refine Call_ (ld_blt I1 (by rfl) x.range_ boot_range (PyProof.Rows.callWith_type1 (thn (ha.run (p 16) pins _ _ H (fun vs H' => vs = [.int 1, .int ((W : Int) + 1)] ∧ H' = H) I1 ⟨_, rfl, _, _, rfl, rfl, rfl, rfl⟩) fun us s1 ⟨vs, H1, J, r1, e1, e2⟩ => ?_) (by rfl) (by rfl)))
    subst e1 e2
    cases r1 with
    | cons r rr =>
      cases rr with
      | cons r' rr =>
        cases rr
        obtain ⟨t, rfl⟩ := r
        obtain ⟨t', rfl⟩ := r'
        exact call_range_2 ⟨_, _, _, _, rfl, Heap.get?_push_size _ rfl, J.kept fun b o e => Heap.get?_push_of_some _ e⟩
  · obtain ⟨T, ⟨rg, t, u, v', rfl, hr, J⟩, g⟩ := hv
    have I2 := I.then J g
    refine wpG_of (wpAny_pyIter_range hr (small_one (by omega) (by omega) (by omega) (by omega)) ?_)
    have e : Builtin.Range.rangeSize 1 ((W : Int) + 1) 1 = W := by
      rw [rangeSize_one]
      split <;> omega
    rw [e]
    exact ⟨r.heap.objs.size, rfl, I2.inv.hok.fresh (Nat.le_refl _), I2.inv.lt, Heap.get?_push_size _ rfl, ig_kept I2 (fun b o e => Heap.get?_push_of_some _ e) (by rw [Heap.size_push]; exact Nat.le_succ _)⟩
/-- extended([*beginning, number]): a generator that has not begun -/
theorem ext_make (x : ExS P w K mg base (fE p q ar cl c) f c1 c2 W) (I : IG (yE P w K mg base p q ar cl c f s0 A outer n sw Hc) W0 gf [] pins (sE pb W f (some (.int i))) H s) (hb : H pb = some (.lst (beg.map V.int))) (hlen : beg.length ≤ 1000)
    (hf : H f = some (FnO f (fE p q ar cl c))) (hc : H c = some (CodeO c q)) (hr : (A.deeper (envF (fE p q ar cl c) f n)).depth < recursionLimit) :
    wpG (model P w) (A.deeper (envF (fE p q ar cl c) f n)) (eval (bTry p) (envF (fE p q ar cl c) f n)) (fun u r => ∃ (pb' n' a : Addr) (g' : Nat) (on oa : Obj), u = .ref a ∧ H pb' = none ∧ H n' = none ∧ H a = none ∧ pb' ≠ n' ∧ pb' ≠ a ∧ n' ≠ a ∧ r.heap.IsGen a g' ∧ GObj oa g' ∧ mark oa = 0 ∧ s.heap.objs.size ≤ n' ∧
      (∀ h : Heap, h.get? n' = some on → h.Ns n' fun y => [(("beginning" : PySem.Str), Value.ref pb')].reverse.lookup y) ∧
      CG (yE P w K mg base p q ar cl c f s0 A outer n sw Hc) W0 gf g' (.fresh (.func (bExt p) (envF (fE p q ar cl c) f n'))) [] pins (sE pb W f (some (.int i))) (upd (upd (upd H pb' (.lst ((beg ++ [i]).map V.int))) n' (XO n' on)) a (XO a oa)) r) Emp s := by
  refine wpG_mono (emb2 (Q := fun u s' => ∃ (pb' a n' : Addr) (g' : Nat) (on oa : Obj) (s2 : Shared), u = .ref a ∧ H pb' = none ∧ s.heap.objs.size ≤ s2.heap.objs.size ∧ s.gens.size ≤ s2.gens.size ∧ n' = s2.heap.objs.size ∧ HOk P w (upd H pb' (.lst ((beg ++ [i]).map V.int))) s2.heap ∧
      Made (yE P w K mg base p q ar cl c f s0 A outer n sw Hc) pins (sE pb W f (some (.int i))) (upd H pb' (.lst ((beg ++ [i]).map V.int))) s2 n' a g' on oa s' ∧ s'.gens[g']? = some (.fresh (.func (bExt p) (envF (fE p q ar cl c) f n'))) ∧
      ∀ h : Heap, h.get? n' = some on → h.Ns n' fun y => [(("beginning" : PySem.Str), Value.ref pb')].reverse.lookup y) (fun T hT hTs => ?_) (fun a s' ⟨_, _, _, _, _, _, _, _, _, _, _, _, _, m, _⟩ => m.inv.bare)) (fun u r hu => ?_) fun _ _ z => z
  · have I1 := inv_bare I.inv hT
    have ha : PE (yE P w K mg base p q ar cl c f s0 A outer n sw Hc) (.List [.Starred (.Name "beginning" (p 21)) (p 22), .Name "number" (p 23)] (p 24)) _ := pe_lst (pa_star (pv 0) (pa_cons (pv 3) pa_nil))
    refine wpAny_Call_Name_kw (thn (grows ((pe_var (X := yE P w K mg base p q ar cl c f s0 A outer n sw Hc) (i := 2) (pos := p 20) rfl (.inr (.inr rfl))).run pins _ _ H (fun v H1 => v = .ref f ∧ H1 = H) I1 ⟨.ref f, rfl, rfl, rfl⟩)) fun u s1 hu1 => ?_)
    obtain ⟨y1, y2, v, H1, J1, r1, q1⟩ := hu1
    obtain ⟨rfl, rfl⟩ := q1
    obtain rfl : u = Value.ref f := r1
    refine PySem.W.callWith_F (first := []) (fnAt_of J1 hf) ?_ rfl rfl
    show wpAny _ _ (spliced ((false, eval (.List [.Starred (.Name "beginning" (p 21)) (p 22), .Name "number" (p 23)] (p 24)) (envF (fE p q ar cl c) f n)) :: backTo (p 25) (starEach [] (envF (fE p q ar cl c) f n)))) _ _ s1
    refine Calls.spliced_cons (thn (grows (ha.run pins s1 _ H1 (fun v H' => ∃ l, v = .ref l ∧ H1 l = none ∧ H' = upd H1 l (.lst ((beg ++ [i]).map V.int))) J1 ?_)) fun v s2 hv => ?_)
    · refine ⟨_, rfl, pb, beg.map V.int, rfl, .inr (SqL.of hb), _, rfl, ?_, fun l hl => ⟨l, rfl, hl, by rw [List.map_append]; rfl⟩⟩
      exact line1000 (by simp; omega)
    · obtain ⟨z1, z2, v', H2, J2, rv, l, rfl, hl, rfl⟩ := hv
      obtain rfl : v = Value.ref l := rv
      refine Calls.spliced_nil ⟨fnAt_of J2 (show upd H1 l (.lst ((beg ++ [i]).map V.int)) f = some (FnO f (fE p q ar cl c)) by rw [upd_ne (ne_of_none hf hl)]; exact hf), ?_⟩
      · refine thn (ext_call x J2 (by rw [upd_ne (ne_of_none hf hl)]; exact hf) (show upd H1 l (.lst ((beg ++ [i]).map V.int)) c = some (CodeO c q) by rw [upd_ne (ne_of_none hc hl)]; exact hc) hr) fun u s' hu => ?_
        obtain ⟨n', a, g', on, oa, e1, m, e2, e3, e4⟩ := hu
        exact ⟨l, a, n', g', on, oa, s2, e1, hl, Nat.le_trans y1 z1, by rw [← hTs]; exact Nat.le_trans y2 z2, e2, J2.hok, m, by rw [e2]; exact e3, e4⟩
  · obtain ⟨T, ⟨pb', a, n', g', on, oa, s2, rfl, hl, h1, h2, e2, hok, m, e3, e4⟩, g, hsz, hT, hfr⟩ := hu
    have na : s2.heap.objs.size ≤ a := Nat.le_trans m.nle (Nat.le_of_lt m.lt)
    have f1 := hok.fresh m.nle
    have f2 := hok.fresh na
    have u1 : ∀ b, upd H pb' (.lst ((beg ++ [i]).map V.int)) b = none → pb' ≠ b ∧ H b = none := fun b e => by
      refine ⟨fun z => ?_, upd_none e⟩
      rw [← z, upd_same] at e; cases e
    refine ⟨pb', n', a, g', on, oa, rfl, hl, (u1 _ f1).2, (u1 _ f2).2, (u1 _ f1).1, (u1 _ f2).1, Nat.ne_of_lt m.lt, m.is_, m.obj, m.mz, Nat.le_trans h1 m.nle, e4, ⟨inv_bare m.inv AllBare.empty, (I.gt.quiet g).imp fun i hi => by obtain ⟨_, z, _⟩ := hi; simp at z, hfr _ _ e3, fun _ z => by simp at z, fun _ z => by simp at z, .inr ?_, fun _ z => by simp at z, Nat.le_trans I.hsz hsz⟩⟩
    exact Nat.le_trans I.gt.size (Nat.le_trans h2 m.gle)
end
end NwG
end
section
/-! extended: what it hands out. -/
namespace NwG
open PySem PySem.Spec PyProof.Rows L2 NwB NwM NdefX LamX StX
/-- the arrangements of 1 .. W that begin with beg, d numbers more -/
def arr (W : Nat) : Nat → List Int → List (List Int)
  | 0, beg => [beg]
  | d + 1, beg => (List.range W).flatMap fun (i : Nat) => if (1 + (i : Int)) ∈ beg then [] else arr W d (beg ++ [1 + (i : Int)])
def arrI (W d : Nat) (beg : List Int) (i : Nat) : List (List Int) := if (1 + (i : Int)) ∈ beg then [] else arr W d (beg ++ [1 + (i : Int)])
def arrR (W d : Nat) (beg : List Int) (j : Nat) : List (List Int) := ((List.range W).drop j).flatMap (arrI W d beg)
theorem arr_succ (W d : Nat) (beg : List Int) : arr W (d + 1) beg = arrR W d beg 0 := rfl
theorem arrR_end (W d : Nat) (beg : List Int) : arrR W d beg W = [] := by
  unfold arrR
  rw [List.drop_eq_nil_of_le (by simp)]
  rfl
theorem arrR_step (W d : Nat) (beg : List Int) (j : Nat) (h : j < W) : arrR W d beg j = arrI W d beg j ++ arrR W d beg (j + 1) := by
  unfold arrR
  rw [List.drop_eq_getElem_cons (by simpa using h), List.flatMap_cons]
  simp
abbrev toV (xs : List (List Int)) : List (List V) := xs.map (List.map V.int)
theorem toV_append (xs ys : List (List Int)) : toV (xs ++ ys) = toV xs ++ toV ys := List.map_append
/-- the around of «yield from» above a frame's code -/
theorem ov_yf {A : Around} {a : Addr} {c : Code} {fs : List Frame} {k : Result → Sem PySem.Fin} {g : Bool} {l kp : List Value} {p : Pos} : (A.over (yfCode a) (.ret k none g l c p kp :: fs)).handled = (A.over c fs).handled ∧ (A.over (yfCode a) (.ret k none g l c p kp :: fs)).depth = (A.over c fs).depth ∧
    (A.over (yfCode a) (.ret k none g l c p kp :: fs)).frames = (A.over c fs).frames ∧ (A.over (yfCode a) (.ret k none g l c p kp :: fs)).units = (A.over c fs).units + 1 := by
  have hw : (yfCode a).weight = 0 := plainId_weight plain_yf _
  have hu : (yfCode a).cUnits = 1 := plainId_units plain_yf _
  refine ⟨rfl, ?_, ?_, ?_⟩
  · show A.depth + frameCount ((c, p) :: fs.map Frame.where_) + (yfCode a).weight = A.depth + frameCount (fs.map Frame.where_) + c.weight
    rw [frameCount_cons, hw]
    omega
  · show pushEnvs (yfCode a).envs (pushEnvs (envsOf ((c, p) :: fs.map Frame.where_)) A.frames) = pushEnvs c.envs (pushEnvs (envsOf (fs.map Frame.where_)) A.frames)
    rw [Code.envs_of_weight hw, envsOf_cons]
    cases A.frames <;> simp [pushEnvs_eq, List.append_assoc]
  · show A.units + unitsOf ((c, p) :: fs.map Frame.where_) + (yfCode a).cUnits = A.units + unitsOf (fs.map Frame.where_) + c.cUnits + 1
    rw [unitsOf_cons, hu]
    omega
section
variable {P : Program} {w : World} {K : PySem.W.Frag} {mg : PySem.Str → Option Value} {base : Heap} {f c1 c2 : Addr} {W : Nat} {s0 : Shared} {p : Nat → Pos} {q : PySem.Str} {ar : Arguments} {cl : List (PySem.Str × Addr)} {c : Addr}
abbrev gE (P : Program) (w : World) (K : PySem.W.Frag) (mg : PySem.Str → Option Value) (base : Heap) (p : Nat → Pos) (q : PySem.Str) (ar : Arguments) (cl : List (PySem.Str × Addr)) (c f c1 c2 : Addr) (W : Nat) (s0 : Shared) (A : Around) (outer : List Env) (n : Addr) (g : Nat) (T : List NTab) : Gp :=
  Cxgp (xE P w K mg base (fE p q ar cl c) f s0 A outer n) A g (shE (fE p q ar cl c) f c1 c2 W) T
def ExtSleeps (P : Program) (w : World) (K : PySem.W.Frag) (mg : PySem.Str → Option Value) (base : Heap) (p : Nat → Pos) (q : PySem.Str) (ar : Arguments) (cl : List (PySem.Str × Addr)) (c f c1 c2 : Addr) (W : Nat) (s0 : Shared) (T : List NTab) (d : Nat) : Prop :=
  ∀ (beg : List Int) (A : Around) (outer : List Env) (n : Addr) (g : Nat) (pb : Addr) (on : Obj) (D : Cds) (O : Own), beg.length + d = W → Room (2 * d + 2) A → A.frames = some outer → base.objs.size ≤ n → (∀ b ∈ frs outer, b < n) → c1 < n → c2 < n → (n, XO n on) ∈ O →
    (∀ h : Heap, h.get? n = some on → h.Ns n fun y => [(("beginning" : PySem.Str), Value.ref pb)].reverse.lookup y) → (pb, .lst (beg.map V.int)) ∈ O → (∀ r ∈ O, r.1 ≠ f ∧ r.1 ≠ c) →
    Sleep (gE P w K mg base p q ar cl c f c1 c2 W s0 A outer n g T) (toV (arr W d beg)) D O [] (.fresh (.func (bExt p) (envF (fE p q ar cl c) f n)))
theorem cel_E (x : ExS P w K mg base (fE p q ar cl c) f c1 c2 W) {A : Around} {outer : List Env} {n : Addr} {L : List Addr} {pb : Addr} {z : Option V} : Cel (xE P w K mg base (fE p q ar cl c) f s0 A outer n) (shE (fE p q ar cl c) f c1 c2 W) L (sE pb W f z) := fun y cc e => by
  refine .inr fun h2 H2 ⟨a1, ⟨t, a2⟩, a3, a4, _, _⟩ => ?_
  rcases x.only y cc e with ⟨rfl, rfl⟩ | ⟨rfl, rfl⟩
  · refine ⟨a1, ⟨_, a2⟩, fun i v e1 e2 => ?_⟩
    have e1 : nE[i]? = some "width" := e1
    rcases i with _ | _ | _ | _ | i
    · exact absurd e1 (by decide)
    · have e2 : v = .int W := by simpa using e2.symm
      subst e2
      exact ⟨_, ⟨t, rfl⟩, a2⟩
    · exact absurd e1 (by decide)
    · exact absurd e1 (by decide)
    · simp at e1
  · refine ⟨a3, ⟨_, a4⟩, fun i v e1 e2 => ?_⟩
    have e1 : nE[i]? = some "extended" := e1
    rcases i with _ | _ | _ | _ | i
    · exact absurd e1 (by decide)
    · exact absurd e1 (by decide)
    · have e2 : v = .ref f := by simpa using e2.symm
      subst e2
      exact ⟨_, rfl, a4⟩
    · exact absurd e1 (by decide)
    · simp at e1
theorem sh_av : ∀ h H, shE (fE p q ar cl c) f c1 c2 W h H → ∀ b ∈ [f, c], H b ≠ none := fun h H ⟨_, _, _, _, a5, a6⟩ b hb => by
  rcases List.mem_cons.mp hb with rfl | hb
  · rw [a5]; simp
  · rw [List.mem_singleton.mp hb, show H c = some (CodeO c q) from a6]; simp
theorem shi_E (x : ExS P w K mg base (fE p q ar cl c) f c1 c2 W) {A : Around} {outer : List Env} {n : Addr} {L : List Addr} {T : List NTab} {tr : Own} {pins : List (Addr × Obj)} {pb : Addr} {z : Option V} (sw : Shared) (Hc : Hp) (O : Own) (H : Hp) (s : Shared) (h : shE (fE p q ar cl c) f c1 c2 W sw.heap Hc)
    (I : Inv (yE P w K mg base p q ar cl c f s0 A outer n sw Hc) pins (sE pb W f z) H (re s #[])) (F : Fr (xE P w K mg base (fE p q ar cl c) f s0 A outer n) T [f, c] (fun _ _ => False) L tr Hc O H s) : shE (fE p q ar cl c) f c1 c2 W s.heap H := by
  obtain ⟨_, _, _, _, a5, a6⟩ := h
  obtain ⟨m, _, hl⟩ := I.loc
  have cellAt : ∀ (i : Nat) (y : PySem.Str) (v : V) (cc : Addr), nE[i]? = some y → (sE pb W f z)[i]? = some (some v) → scExt.names.lookup y = some .free → cl.lookup y = some cc → ∃ u, RelV v u ∧ s.heap.IsCell cc (some u) := fun i y v cc h1 h2 h3 h4 => by
    obtain ⟨u, rv, l⟩ := hl i y v h1 h2 (.inr (.inr h3))
    rcases l with ⟨l, _⟩ | ⟨_, c', e, z'⟩
    · have l' : scExt.names.lookup y = some .local := l
      rw [h3] at l'; cases l'
    · have e' : cl.lookup y = some c' := e
      rw [h4] at e'; cases e'
      exact ⟨u, rv, z'⟩
  obtain ⟨u1, ⟨t, rfl⟩, h1⟩ := cellAt 1 "width" (.int W) c1 rfl rfl (by decide) x.w1
  obtain ⟨u2, rfl, h2⟩ := cellAt 2 "extended" (.ref f) c2 rfl rfl (by decide) x.w2
  exact ⟨I.freeC _ _ x.w1, ⟨t, h1⟩, I.freeC _ _ x.w2, h2, F.kp.ext _ _ (.inr fnO_ne) a5 (F.avo f List.mem_cons_self).2, F.kp.ext _ _ (.inr codeO_ne) a6 (F.avo c (List.mem_cons_of_mem _ List.mem_cons_self)).2⟩
end
end NwG
end
section
/-! extended: its loop, its contract. -/
namespace NwG
open PySem PySem.Spec PyProof.Rows L2 NwB NwM NdefX LamX StX
section
variable {P : Program} {w : World} {K : PySem.W.Frag} {mg : PySem.Str → Option Value} {base : Heap} {f c1 c2 : Addr} {W : Nat} {s0 : Shared} {p : Nat → Pos} {q : PySem.Str} {ar : Arguments} {cl : List (PySem.Str × Addr)} {c : Addr} {A : Around} {outer : List Env} {n : Addr} {T : List NTab}
theorem ig_turned (x : ExS P w K mg base (fE p q ar cl c) f c1 c2 W) {sw W0 s : Shared} {Hc H : Hp} {gf : Nat → Prop} {sub : Sub} {σ : L2.St} {it : Addr} {h' : Heap} {tk : Nat} (I : IG (yE P w K mg base p q ar cl c f s0 A outer n sw Hc) W0 gf sub [] σ H s) (k : ∀ b o, b ≠ it → s.heap.get? b = some o → h'.get? b = some o)
    (hs : s.heap.objs.size ≤ h'.objs.size) (hn : H it = none) (h1 : c1 < n) (h2 : c2 < n) (hit : n < it) : IG (yE P w K mg base p q ar cl c f s0 A outer n sw Hc) W0 gf sub [] σ H { s with heap := h', toks := tk } :=
  ⟨Inv.turned (s := re s #[]) (h' := h') (t' := tk) I.inv k hn (Nat.ne_of_gt hit) (.inr (Nat.le_trans (by show (cut _ _).objs.size ≤ n; rw [cut_size]; exact Nat.min_le_left _ _) (Nat.le_of_lt hit))) (fun y cc e z => by
    rcases x.only y cc e with ⟨_, r⟩ | ⟨_, r⟩
    · rw [← z, r] at hit; exact absurd (Nat.lt_trans h1 hit) (Nat.lt_irrefl _)
    · rw [← z, r] at hit; exact absurd (Nat.lt_trans h2 hit) (Nat.lt_irrefl _)) (fun r hr => by have : r ∈ ([] : List (Addr × Obj)) ++ [] := hr; simp at this), I.gt, I.subs, I.new, Nat.le_trans I.hsz hs⟩
theorem ig_pin {Y : Cx} {W0 s : Shared} {H : Hp} {gf : Nat → Prop} {sub : Sub} {σ : L2.St} {it : Addr} {o : Obj} (hpn : Y.pn = []) (I : IG Y W0 gf sub [] σ H s) (e : s.heap.get? it = some o) (hn : H it = none) (h1 : it ≠ Y.env.locals) (h2 : it ∉ Y.fs) (hc : ∀ v, o.data ≠ .cell v) : IG Y W0 gf sub [(it, o)] σ H s :=
  ⟨I.inv.pins_of fun r hr => by rw [List.mem_singleton.mp hr]; exact ⟨e, hn, h1, h2, hc⟩, I.gt, I.subs, I.new, I.hsz⟩
theorem ig_unpin {Y : Cx} {W0 s : Shared} {H : Hp} {gf : Nat → Prop} {sub : Sub} {σ : L2.St} {pins : List (Addr × Obj)} (I : IG Y W0 gf sub pins σ H s) : IG Y W0 gf sub [] σ H s :=
  ⟨I.inv.pins_of fun r hr => by simp at hr, I.gt, I.subs, I.new, I.hsz⟩
theorem inv_pinned {Y : Cx} {s : Shared} {H : Hp} {σ : L2.St} {it : Addr} {o : Obj} (I : Inv Y [(it, o)] σ H s) : s.heap.get? it = some o ∧ H it = none :=
  let ⟨a, b, _⟩ := I.pin (it, o) (List.mem_append_right _ List.mem_cons_self); ⟨a, b⟩
theorem inv_locals {Y : Cx} {s : Shared} {H : Hp} {σ : L2.St} {pins : List (Addr × Obj)} (I : Inv Y pins σ H s) : ∃ o, s.heap.get? Y.env.locals = some o := by
  obtain ⟨m, ⟨o, _, _, ho, _⟩, _⟩ := I.loc
  exact ⟨o, ho⟩
theorem room_yf {d : Nat} {A : Around} {env : Env} {a : Addr} {c' : Code} {fs : List Frame} {k : Result → Sem PySem.Fin} {g : Bool} {l kp : List Value} {p : Pos} (hr : Room (d + 2) A) (ho : A.over c' fs = A.deeper env) : Room d (A.over (yfCode a) (.ret k none g l c' p kp :: fs)).in1 := by
  obtain ⟨e1, e2, e3, e4⟩ := ov_yf (A := A) (a := a) (c := c') (fs := fs) (k := k) (g := g) (l := l) (kp := kp) (p := p)
  rw [ho] at e1 e2 e3 e4
  refine ⟨e1.trans hr.hd, ?_, ?_⟩
  · have := hr.dp
    show (A.over (yfCode a) (.ret k none g l c' p kp :: fs)).depth + 3 * d + 5 < _
    rw [e2]
    show A.depth + 1 + 3 * d + 5 < _
    omega
  · have := hr.un
    show (A.over (yfCode a) (.ret k none g l c' p kp :: fs)).units + 1 + 16 * d + 200 < _
    rw [e4]
    show A.units + 3 + 1 + 1 + 16 * d + 200 < _
    omega
/-- its frame's view, made anew -/
theorem fr_E {Hc H : Hp} {O : Own} {s : Shared} {W0 sw : Shared} {gf : Nat → Prop} {sub : Sub} {pb it : Addr} {o : Obj} {beg : List Int} {σ : L2.St} (I : IG (yE P w K mg base p q ar cl c f s0 A outer n sw Hc) W0 gf sub [(it, o)] σ H s) (hit : n < it) (hb : H pb = some (.lst (beg.map V.int))) (hm : Mem O Hc pb)
    (hkp : Kp T Hc O H) (avo : ∀ b ∈ [f, c], Hc b ≠ none ∧ ∀ q ∈ O, q.1 ≠ b) : Fr (xE P w K mg base (fE p q ar cl c) f s0 A outer n) T [f, c] (fun _ _ => False) [n, it] [(pb, .lst (beg.map V.int))] Hc O H s where
  hL := fun b hb => by
    rcases List.mem_cons.mp hb with rfl | hb
    · exact ⟨Nat.le_refl _, I.inv.free, inv_locals I.inv⟩
    · rw [List.mem_singleton.mp hb]
      exact ⟨Nat.le_of_lt hit, (inv_pinned I.inv).2, ⟨_, (inv_pinned I.inv).1⟩⟩
  htr := fun r hr => by rw [List.mem_singleton.mp hr]; exact ⟨trivial, hb, hm⟩
  kp := hkp
  avo := avo
  cdf := fun _ _ z => z.elim
/-- a range's iterator at x -/
def rgO (x left step : Int) : Obj := { cls := .type "range_iterator", dict := none, data := .fields #[rawInt x, rawInt left, rawInt step], slots := #[] }
theorem ext_loop (x : ExS P w K mg base (fE p q ar cl c) f c1 c2 W) {d : Nat} (ih : ExtSleeps P w K mg base p q ar cl c f c1 c2 W s0 T d) {beg : List Int} (hbeg : beg.length + (d + 1) = W) {g : Nat} {pb it : Addr} (hr : Room (2 * d + 4) A) (hf : A.frames = some outer) (hb0 : base.objs.size ≤ n) (hlo : ∀ b ∈ frs outer, b < n)
    (h1 : c1 < n) (h2 : c2 < n) (hit : n < it) {k : Result → Sem PySem.Fin} {l : List Value} {p' : Pos} (hk : k (.ok .next) = leafOf (.ok (.ret .none))) :
    ∀ (m j : Nat), j + m = W → ∀ (sw : Shared) (Hc : Hp) (O : Own) (gf : Sub) (H : Hp) (s : Shared) (z : Option V), shE (fE p q ar cl c) f c1 c2 W sw.heap Hc → IG (yE P w K mg base p q ar cl c f s0 A outer n sw Hc) sw (At gf) [] [] (sE pb W f z) H s →
      Fr (xE P w K mg base (fE p q ar cl c) f s0 A outer n) T [f, c] (fun _ _ => False) [n, it] [(pb, .lst (beg.map V.int))] Hc O H s → IsRangeIter s.heap it (1 + (j : Int)) ((W : Int) - (j : Int)) 1 →
      GenG (model P w) A g (SY (gE P w K mg base p q ar cl c f c1 c2 W s0 A outer n g T) (toV (arrR W d beg j)) O gf sw Hc) (SR (gE P w K mg base p q ar cl c f c1 c2 W s0 A outer n g T) (toV (arrR W d beg j)) O gf sw Hc) (.forLoop (.Name "number" (p 10)) (.ref it) (bTurn p) [] (envF (fE p q ar cl c) f n))
        ((model P w).den (.forLoop (.Name "number" (p 10)) (.ref it) (bTurn p) [] (envF (fE p q ar cl c) f n))) [.ret k none false l (.func (bExt p) (envF (fE p q ar cl c) f n)) p' []] s := by
  have S : Sta (xE P w K mg base (fE p q ar cl c) f s0 A outer n) A := sta_E x hr.hd hf hb0 hlo
  have hov : A.over (.forLoop (.Name "number" (p 10)) (.ref it) (bTurn p) [] (envF (fE p q ar cl c) f n)) [.ret k none false l (.func (bExt p) (envF (fE p q ar cl c) f n)) p' []] = A.deeper (envF (fE p q ar cl c) f n) := (GenW.over_loop rfl rfl).trans GenW.over_func
  intro m
  induction m with
  | zero =>
    intro j hj sw Hc O gf H s z hsh I F hri
    obtain rfl : j = W := hj
    rw [arrR_end]
    refine gg_forTurn ?_
    rw [hov]
    refine wpG_mono (wpG_of (wpAny_hsz (wpAny_pyNext_range_end (Q := fun r s' => r = none ∧ ∃ h', Heap.ExtBut it s.heap h' ∧ s' = { s with heap := h' }) (E := Emp) hr.hd hri (by omega) fun h' eb => ⟨rfl, h', eb, rfl⟩))) (fun r s' hq => ?_) fun _ _ z => z.2
    obtain ⟨hz, rfl, h', eb, rfl⟩ := hq
    refine gg_leaf (.ok .next) ?_
    rw [hk]
    refine gg_end ?_
    exact sr_end S (ig_turned (tk := s.toks) x I (fun b o hb e => eb b o hb e) hz (F.hL it (by simp)).2.1 h1 h2 hit) F.kp
  | succ m ihm =>
    intro j hj sw Hc O gf H s z hsh I F hri
    have hjW : j < W := by omega
    have hb : H pb = some (.lst (beg.map V.int)) := (F.htr _ List.mem_cons_self).2.1
    have hm : Mem O Hc pb := (F.htr _ List.mem_cons_self).2.2
    have hit0 := (F.hL it (by simp)).2.1
    rw [arrR_step W d beg j hjW]
    refine gg_forTurn ?_
    rw [hov]
    refine wpG_of (wpAny_pyNext_range_item hri (by omega) fun h' hri2 hs => ?_)
    refine wpG_pure ?_
    have I1 : IG (yE P w K mg base p q ar cl c f s0 A outer n sw Hc) sw (At gf) [] [(it, rgO (1 + (j : Int) + 1) ((W : Int) - (j : Int) - 1) 1)] (sE pb W f z) H { s with heap := h', toks := s.toks + 1 } :=
      ig_pin rfl (ig_turned x I (fun b o hb e => (hs.2 b hb).trans e) (Nat.le_of_eq hs.1.symm) hit0 h1 h2 hit) hri2 hit0 (Nat.ne_of_gt hit) (fun hm => absurd (hlo it hm) (Nat.not_lt.mpr (Nat.le_of_lt hit))) (fun v e => by cases e)
    refine wpG_mono (pg_G (X := yE P w K mg base p q ar cl c f s0 A outer n sw Hc) (Q := fun σ' H' => σ' = sE pb W f (some (.int (1 + (j : Int)))) ∧ H' = H) (v := .int (1 + (j : Int))) (pg_name (i := 3) (by show nE.Nodup; decide) rfl (.inl rfl) (.inr rfl)) (fun _ _ z => z) I1 ⟨_, rfl⟩ ⟨rfl, rfl⟩) (fun _ r ⟨σ', H', J, e1, e2⟩ Jx => ?_) fun _ _ z => z
    subst e1
    rw [e2] at J
    refine gg_execs_cons (gg_If ?_)
    rw [hov]
    refine wpG_mono (ext_in J hb) (fun b r2 ⟨eb, I2⟩ => ?_) fun _ _ z => z
    -- the next turn
    have next : ∀ (sw : Shared) (Hc : Hp) (O : Own) (gf : Sub) (H : Hp) (s : Shared), shE (fE p q ar cl c) f c1 c2 W sw.heap Hc → IG (yE P w K mg base p q ar cl c f s0 A outer n sw Hc) sw (At gf) [] [(it, rgO (1 + (j : Int) + 1) ((W : Int) - (j : Int) - 1) 1)] (sE pb W f (some (.int (1 + (j : Int))))) H s →
        Fr (xE P w K mg base (fE p q ar cl c) f s0 A outer n) T [f, c] (fun _ _ => False) [n, it] [(pb, .lst (beg.map V.int))] Hc O H s → GenG (model P w) A g (SY (gE P w K mg base p q ar cl c f c1 c2 W s0 A outer n g T) (toV (arrR W d beg (j + 1))) O gf sw Hc) (SR (gE P w K mg base p q ar cl c f c1 c2 W s0 A outer n g T) (toV (arrR W d beg (j + 1))) O gf sw Hc)
          (.forLoop (.Name "number" (p 10)) (.ref it) (bTurn p) [] (envF (fE p q ar cl c) f n)) (.pure (.again (.forLoop (.Name "number" (p 10)) (.ref it) (bTurn p) [] (envF (fE p q ar cl c) f n)))) [.ret k none false l (.func (bExt p) (envF (fE p q ar cl c) f n)) p' []] s := fun sw Hc O gf H s hsh I F => by
      refine gg_again rfl (ihm (j + 1) (by omega) sw Hc O gf H s _ hsh (ig_unpin I) F ?_)
      have e := (inv_pinned I.inv).1
      show s.heap.get? it = some (rgO (1 + ((j + 1 : Nat) : Int)) ((W : Int) - ((j + 1 : Nat) : Int)) 1)
      rw [e]
      have a1 : (1 : Int) + ((j + 1 : Nat) : Int) = 1 + (j : Int) + 1 := by omega
      have a2 : (W : Int) - ((j + 1 : Nat) : Int) = (W : Int) - (j : Int) - 1 := by omega
      rw [a1, a2]
    have F2 := fr_E I2 hit hb hm F.kp F.avo
    by_cases hin : (1 + (j : Int)) ∈ beg
    · have e3 : arrI W d beg j = [] := if_pos hin
      rw [e3, eb, decide_eq_true hin]
      exact next sw Hc O gf _ _ hsh I2 F2
    · have e3 : arrI W d beg j = arr W d (beg ++ [1 + (j : Int)]) := if_neg hin
      rw [e3, toV_append, eb, decide_eq_false hin]
      refine gg_execs_cons (gg_YieldFrom rfl (hi := rfl) ?_)
      rw [hov]
      have hfc : H f = some (FnO f (fE p q ar cl c)) ∧ H c = some (CodeO c q) := by
        obtain ⟨_, _, _, _, a5, a6⟩ := hsh
        exact ⟨F.kp.ext _ _ (.inr fnO_ne) a5 (F.avo f List.mem_cons_self).2, F.kp.ext _ _ (.inr codeO_ne) a6 (F.avo c (List.mem_cons_of_mem _ List.mem_cons_self)).2⟩
      have hW := x.W
      refine wpG_mono (ext_make x I2 hb (by omega) hfc.1 hfc.2 (hr.deeper (k := 2 * d + 3) _).depth) (fun u r3 hu => ?_) fun _ _ z => z
      obtain ⟨pb', n', a, g', on, oa, rfl, hp0, hn0, ha0, d1, d2, d3, isg, gob, mz, hn', hon, C⟩ := hu
      refine ⟨a, g', rfl, isg, fun k1 l1 p1 hk1 => ?_⟩
      have e1 := hk1 _ rfl
      have tk : ∀ b o, H b = some o → b ≠ pb' ∧ b ≠ n' ∧ b ≠ a := fun b o e => ⟨ne_of_none e hp0, ne_of_none e hn0, ne_of_none e ha0⟩
      have kp : ∀ b o, H b = some o → upd (upd (upd H pb' (.lst ((beg ++ [1 + (j : Int)]).map V.int))) n' (XO n' on)) a (XO a oa) b = some o := fun b o e => by
        obtain ⟨z1, z2, z3⟩ := tk b o e
        rw [upd_ne z3, upd_ne z2, upd_ne z1]; exact e
      have nlt : n < n' := Nat.lt_of_lt_of_le I2.inv.lt hn'
      have hle : ∀ b o, r2.heap.get? b = some o → b < n' := fun b o e => Nat.lt_of_lt_of_le (Heap.lt_size e) hn'
      have F3 : Fr (xE P w K mg base (fE p q ar cl c) f s0 A outer n) T [f, c] (fun _ _ => False) [n, it] [(pb, .lst (beg.map V.int))] Hc O (upd (upd (upd H pb' (.lst ((beg ++ [1 + (j : Int)]).map V.int))) n' (XO n' on)) a (XO a oa)) r3 := by
        refine ⟨fun b hb' => ?_, fun r hr' => ?_, F.kp.full kp, F.avo, fun _ _ z => z.elim⟩
        · rcases List.mem_cons.mp hb' with rfl | hb'
          · exact ⟨Nat.le_refl _, C.inv.free, inv_locals C.inv⟩
          · rw [List.mem_singleton.mp hb']
            exact ⟨Nat.le_of_lt hit, (inv_pinned C.inv).2, ⟨_, (inv_pinned C.inv).1⟩⟩
        · rw [List.mem_singleton.mp hr']
          exact ⟨trivial, kp _ _ hb, hm⟩
      have ys : YS (xE P w K mg base (fE p q ar cl c) f s0 A outer n) A (shE (fE p q ar cl c) f c1 c2 W) T [f, c] (fun _ _ => False) [n, it] [(pb, .lst (beg.map V.int))] a [(it, rgO (1 + (j : Int) + 1) ((W : Int) - (j : Int) - 1) 1)] (sE pb W f (some (.int (1 + (j : Int)))))
          [.ret k1 none false l1 (.forLoop (.Name "number" (p 10)) (.ref it) (bTurn p) [] (envF (fE p q ar cl c) f n)) p1 [], .ret k none false l (.func (bExt p) (envF (fE p q ar cl c) f n)) p' []] n' (shE (fE p q ar cl c) f c1 c2 W) := by
        obtain ⟨o1, o2, o3, o4⟩ := ov_yf (A := A) (a := a) (c := .forLoop (.Name "number" (p 10)) (.ref it) (bTurn p) [] (envF (fE p q ar cl c) f n)) (fs := [.ret k none false l (.func (bExt p) (envF (fE p q ar cl c) f n)) p' []]) (k := k1) (g := false) (l := l1) (kp := []) (p := p1)
        rw [hov] at o1 o2 o3 o4
        refine ⟨S, rfl, rfl, o1.trans hr.hd, ?_, o3.trans (Around.frames_deeper hf), List.mem_cons_self, fun r hr' => ?_, cel_E x, sh_av, fun b hb' => ?_, fun y cc e => ?_, fun sw Hc O H s hs I F => shi_E x sw Hc O H s hs I F⟩
        · rw [o2]; exact (hr.deeper (k := 2 * d + 3) _).depth
        · rw [List.mem_singleton.mp hr']; simp
        · rcases List.mem_cons.mp hb' with rfl | hb'
          · exact nlt
          · rw [List.mem_singleton.mp hb']
            exact hle _ _ (inv_pinned I2.inv).1
        · rcases x.only y cc e with ⟨_, r⟩ | ⟨_, r⟩
          · rw [r]; exact Nat.lt_trans h1 nlt
          · rw [r]; exact Nat.lt_trans h2 nlt
      refine yf_loop ys (fun sw Hc O gf H s hs I F => ?_) (toV (arr W d (beg ++ [1 + (j : Int)]))) (fun _ _ => False) sw Hc O gf _ r3 (.fresh (.func (bExt p) (envF (fE p q ar cl c) f n'))) [] [(n', XO n' on), (pb', .lst ((beg ++ [1 + (j : Int)]).map V.int))] oa hsh C F3
        ⟨upd_same, gob, fun r hr' => ?_, fun r hr' => ?_, fun r hr' => ?_⟩ (Int.le_of_eq mz) (fun r hr' => ?_) (fun r hr' => ?_) (fun _ _ z => z.elim) ?_
      · refine gg_leaf (.ok (.ret .none)) ?_
        rw [e1]
        exact next sw Hc O gf H s hs I F
      · rcases List.mem_cons.mp hr' with rfl | hr'
        · rw [upd_ne d3]; exact upd_same
        · rw [List.mem_singleton.mp hr', upd_ne d2, upd_ne d1]; exact upd_same
      · rcases List.mem_cons.mp hr' with rfl | hr'
        · trivial
        · rw [List.mem_singleton.mp hr']; trivial
      · rcases List.mem_cons.mp hr' with rfl | hr'
        · exact d3
        · rw [List.mem_singleton.mp hr']; exact d2
      · rcases List.mem_cons.mp hr' with rfl | hr'
        · exact F.kp.mem ha0
        · rcases List.mem_cons.mp hr' with rfl | hr'
          · exact F.kp.mem hn0
          · rw [List.mem_singleton.mp hr']; exact F.kp.mem hp0
      · rw [List.mem_singleton.mp hr']
        obtain ⟨z1, z2, z3⟩ := tk _ _ hb
        refine ⟨z3, fun r2 hr2 => ?_⟩
        rcases List.mem_cons.mp hr2 with rfl | hr2
        · exact Ne.symm z2
        · rw [List.mem_singleton.mp hr2]; exact Ne.symm z1
      · refine ih (beg ++ [1 + (j : Int)]) _ _ n' g' pb' on _ _ (by simp; omega) (room_yf hr hov) ?_ (Nat.le_trans hb0 (Nat.le_of_lt nlt)) (fun b hb' => ?_) (Nat.lt_trans h1 nlt) (Nat.lt_trans h2 nlt) List.mem_cons_self hon (List.mem_cons_of_mem _ List.mem_cons_self) fun r hr' => ?_
        · exact ys.fr
        · rcases List.mem_cons.mp (show b ∈ n :: frs outer from hb') with rfl | hb'
          · exact nlt
          · exact Nat.lt_trans (hlo b hb') nlt
        · obtain ⟨y1, y2, y3⟩ := tk _ _ hfc.1
          obtain ⟨y4, y5, y6⟩ := tk _ _ hfc.2
          rcases List.mem_cons.mp hr' with rfl | hr'
          · exact ⟨Ne.symm y2, Ne.symm y5⟩
          · rw [List.mem_singleton.mp hr']; exact ⟨Ne.symm y1, Ne.symm y4⟩
end
end NwG
end
section
/-! extended: its contract. -/
namespace NwG
open PySem PySem.Spec PyProof.Rows L2 NwB NwM NdefX LamX StX
section
variable {P : Program} {w : World} {K : PySem.W.Frag} {mg : PySem.Str → Option Value} {base : Heap} {f c1 c2 : Addr} {W : Nat} {s0 : Shared} {p : Nat → Pos} {q : PySem.Str} {ar : Arguments} {cl : List (PySem.Str × Addr)} {c : Addr} {T : List NTab}
theorem start_E (x : ExS P w K mg base (fE p q ar cl c) f c1 c2 W) {A : Around} {outer : List Env} {n pb : Addr} {g : Nat} {on : Obj} {D : Cds} {O : Own} {s : Shared} {Hc : Hp} (S : Sta (xE P w K mg base (fE p q ar cl c) f s0 A outer n) A) (pre : Pre (gE P w K mg base p q ar cl c f c1 c2 W s0 A outer n g T) D O [] s Hc) (hO : (n, XO n on) ∈ O)
    (hon : ∀ h : Heap, h.get? n = some on → h.Ns n fun y => [(("beginning" : PySem.Str), Value.ref pb)].reverse.lookup y) : IG (yE P w K mg base p q ar cl c f s0 A outer n s Hc) s (At []) [] [] (sE pb W f none) (unt [n] Hc) s := by
  have hsh : shE (fE p q ar cl c) f c1 c2 W s.heap Hc := pre.sh
  obtain ⟨a1, ⟨t, a2⟩, a3, a4, _, _⟩ := hsh
  refine wake0 (X := xE P w K mg base (fE p q ar cl c) f s0 A outer n) S pre hO hon (fun i y v e1 e2 e3 => ?_) (fun y cc e => ?_) rfl
  · have e1 : nE[i]? = some y := e1
    rcases i with _ | _ | _ | _ | i
    · have e1 : y = "beginning" := by simpa using e1.symm
      have e2 : v = .ref pb := by simpa using e2.symm
      subst e1 e2
      exact ⟨_, rfl, .inl ⟨rfl, rfl⟩⟩
    · have e1 : y = "width" := by simpa using e1.symm
      have e2 : v = .int W := by simpa using e2.symm
      subst e1 e2
      exact ⟨_, ⟨t, rfl⟩, .inr ⟨.inr rfl, c1, x.w1, a2⟩⟩
    · have e1 : y = "extended" := by simpa using e1.symm
      have e2 : v = .ref f := by simpa using e2.symm
      subst e1 e2
      exact ⟨_, rfl, .inr ⟨.inr rfl, c2, x.w2, a4⟩⟩
    · simp at e2
    · simp at e1
  · rcases x.only y cc e with ⟨_, r⟩ | ⟨_, r⟩
    · rw [r]; exact ⟨a1, _, a2⟩
    · rw [r]; exact ⟨a3, _, a4⟩
theorem ext_sleeps (x : ExS P w K mg base (fE p q ar cl c) f c1 c2 W) : ∀ d, ExtSleeps P w K mg base p q ar cl c f c1 c2 W s0 T d := by
  intro d
  induction d with
  | zero =>
    intro beg A outer n g pb on D O hlen hr hf hb0 hlo h1 h2 hO hon hpb hO2
    refine sleep_iff.mpr fun s Hc pre => ?_
    have S : Sta (xE P w K mg base (fE p q ar cl c) f s0 A outer n) A := sta_E x hr.hd hf hb0 hlo
    have I0 := start_E x S pre hO hon
    have hn := pre.own _ hO
    have hb := pre.own _ hpb
    have npb : pb ≠ n := fun e => by
      have hb : Hc pb = some (.lst (beg.map V.int)) := hb
      have hn : Hc n = some (XO n on) := hn
      rw [e, hn] at hb; cases hb
    have hb' : unt [n] Hc pb = some (.lst (beg.map V.int)) := by rw [unt_out (by simpa using npb)]; exact hb
    have kp0 : Kp T Hc O (unt [n] Hc) := Kp.unt fun b hb2 => by rw [List.mem_singleton.mp hb2]; exact ⟨⟨on, hn⟩, _, hO, rfl⟩
    refine gg_func (gg_execs_cons (gg_If ?_))
    rw [GenW.over_func]
    refine wpG_mono (ext_test x I0 hb') (fun b r ⟨eb, I1⟩ => ?_) fun _ _ z => z
    rw [eb, decide_eq_true (by omega)]
    refine gg_execs_cons (gg_Yield rfl rfl rfl rfl rfl ?_)
    rw [GenW.over_func]
    refine wpG_mono (ext_list x I1 hb') (fun v r2 ⟨l, ev, hl, I2⟩ k lq pos hk => ?_) fun _ _ z => z
    subst ev
    have hl2 : ∀ b o, unt [n] Hc b = some o → b ≠ l := fun b o e => ne_of_none e hl
    refine sy_at (x := beg.map V.int) (xs := []) (L := [n]) (tr := []) S I2 (fun b hb' => ?_) List.mem_cons_self (fun _ z => by simp at z) (fun _ z => by simp at z) upd_same (kp0.mem hl) (kp0.full fun a o e => by rw [upd_ne (hl2 a o e)]; exact e) (cel_E x) fun s2 Hc2 pre2 I3 => ?_
    · rw [List.mem_singleton.mp hb']
      exact ⟨Nat.le_refl _, I2.inv.free, inv_locals I2.inv⟩
    · rw [hk _ rfl]
      refine gg_end ?_
      refine sr_end S I3 (Kp.unt fun b hb2 => ?_)
      obtain ⟨oo, ho⟩ := inv_locals I2.inv
      have ho : r2.heap.get? n = some oo := ho
      have hm := List.mem_append_left ([] : Own) (mem_xos (L := [n]) List.mem_cons_self ho)
      rw [List.mem_singleton.mp hb2]
      exact ⟨⟨oo, pre2.own _ hm⟩, _, hm, rfl⟩
  | succ d ih =>
    intro beg A outer n g pb on D O hlen hr hf hb0 hlo h1 h2 hO hon hpb hO2
    refine sleep_iff.mpr fun s Hc pre => ?_
    have S : Sta (xE P w K mg base (fE p q ar cl c) f s0 A outer n) A := sta_E x hr.hd hf hb0 hlo
    have I0 := start_E x S pre hO hon
    have hn := pre.own _ hO
    have hb := pre.own _ hpb
    have npb : pb ≠ n := fun e => by
      have hb : Hc pb = some (.lst (beg.map V.int)) := hb
      have hn : Hc n = some (XO n on) := hn
      rw [e, hn] at hb; cases hb
    have hb' : unt [n] Hc pb = some (.lst (beg.map V.int)) := by rw [unt_out (by simpa using npb)]; exact hb
    have kp0 : Kp T Hc O (unt [n] Hc) := Kp.unt fun b hb2 => by rw [List.mem_singleton.mp hb2]; exact ⟨⟨on, hn⟩, _, hO, rfl⟩
    refine gg_func (gg_execs_cons (gg_If ?_))
    rw [GenW.over_func]
    refine wpG_mono (ext_test x I0 hb') (fun b r ⟨eb, I1⟩ => ?_) fun _ _ z => z
    rw [eb, decide_eq_false (by omega), if_neg Bool.false_ne_true]
    refine gg_execs_cons ?_
    refine gg_For (tg := .Name "number" (p 10)) (iter := bRange p) (body := bTurn p) (pos := p 29) rfl (hs := fun _ => rfl) ?_
    rw [GenW.over_func]
    refine wpG_mono (ext_range x I1) (fun v s1 h => wpG_mono h (fun u r2 ⟨it, eu, hit0, hit, hri, I2⟩ k lq pos hk => ?_) fun _ _ z => z) fun _ _ z => z
    subst eu
    rw [arr_succ]
    have hsh := pre.sh
    refine ext_loop x ih hlen (hr.mono (by omega)) hf hb0 hlo h1 h2 hit (hk _ rfl) W 0 (by omega) s Hc O [] _ r2 none hsh I2 ⟨fun b hb2 => ?_, fun r hr' => ?_, kp0, fun b hb2 => ⟨sh_av _ _ hsh b hb2, fun r hr' => ?_⟩, fun _ _ z => z.elim⟩ (by simpa using hri)
    · rcases List.mem_cons.mp hb2 with rfl | hb2
      · exact ⟨Nat.le_refl _, I2.inv.free, inv_locals I2.inv⟩
      · rw [List.mem_singleton.mp hb2]
        exact ⟨Nat.le_of_lt hit, hit0, ⟨_, hri⟩⟩
    · rw [List.mem_singleton.mp hr']; exact ⟨trivial, hb', .inl ⟨_, hpb, rfl⟩⟩
    · obtain ⟨z1, z2⟩ := hO2 r hr'
      rcases List.mem_cons.mp hb2 with rfl | hb2
      · exact z1
      · rw [List.mem_singleton.mp hb2]; exact z2
end
end NwG
end
section
/-! A generator def of the module is called: what has been made. -/
namespace NwG
open PySem PySem.Spec PyProof.Rows L2 NwB NwM NdefX LamX
abbrev noE : XK := fun _ _ _ => False
/-- its frame and its cells -/
abbrev frL (n : Addr) (scope : Scope) : List Addr := n :: (cellsFrom (n + 1) scope.names []).map (·.2)
structure GMd (Y : Cx) (pins : List (Addr × Obj)) (σ : L2.St) (H : Hp) (s : Shared) (N : List PySem.Str) (qual : PySem.Str) (scope : Scope) (body : List Stmt) (f : Addr) (cd : Value) (vs : List V) (a : Addr) (g : Nat) (oa : Obj) (s1 s' : Shared) : Prop where
  st : Inv (gcxOf Y.prog Y.w Y.K Y.mg Y.base N qual scope f cd Y.A Y.stack s H noE []) [] (start N vs) H s1
  objs : ∀ b ∈ frL s.heap.objs.size scope, s.heap.objs.size ≤ b ∧ ∃ o, s1.heap.get? b = some o ∧ s'.heap.get? b = some o
  inv : Inv Y pins σ (upd (tell (frL s.heap.objs.size scope) s1.heap H) a (XO a oa)) s'
  ne : ∀ b ∈ frL s.heap.objs.size scope, b ≠ a
  ale : s.heap.objs.size < a
  gle : s.gens.size ≤ g
  gl : g < s'.gens.size
  obj : GObj oa g
  is_ : s'.heap.IsGen a g
  mz : mark oa = 0
  at_ : s'.gens[g]? = some (.fresh (.func body (envOfC qual scope s.heap.objs.size f cd)))
theorem tell_ok {Y : Cx} {pins : List (Addr × Obj)} {σ : L2.St} {H : Hp} {s : Shared} {h1 : Heap} {L : List Addr} {tk : Nat} (I : Inv Y pins σ H s) (k : ∀ b o, s.heap.get? b = some o → h1.get? b = some o) (hL : ∀ b ∈ L, s.heap.objs.size ≤ b ∧ ∃ o, h1.get? b = some o) : Inv Y pins σ (tell L h1 H) { s with heap := h1, toks := tk } := by
  have out : ∀ b, b < s.heap.objs.size → b ∉ L := fun b hb z => absurd (hL b z).1 (Nat.not_le.mpr hb)
  have tr : ∀ b o, H b = some o → b ∉ L := fun b o e => out b (HOk.lt I.hok e)
  refine I.un (h' := h1) (t' := tk) ⟨fun b o e _ _ _ => k b o e, fun b o e _ _ _ => ⟨o.slots, k b o e⟩, fun b o e n _ => by rw [tell_out (out b (Heap.lt_size e))]; exact n, fun b o e _ => ⟨o, k b o e⟩, fun b xs e => by rw [tell_out (tr b _ e)]; exact e, fun b o u e => by rw [tell_out (tr b _ e)]; exact e,
    fun b ps e => ⟨#[], by rw [tell_out (tr b _ e), e]; simp⟩⟩ (hok_tell (I.hok.kept k) fun b hb => ⟨I.hok.fresh (hL b hb).1, (hL b hb).2⟩)
theorem gen_call {Y : Cx} {pins : List (Addr × Obj)} {σ : L2.St} {H : Hp} {s : Shared} {name qual : PySem.Str} {params : Arguments} {body : List Stmt} {scope : Scope} {f : Addr} {fd : FuncData} {N ps : List PySem.Str} {us : List Value} {vs : List V} {E : Value → Shared → Prop}
    (F : FunD Y.K name qual params body scope [] [] f fd) (S : GScope N ps scope) (hb : BindsTo s fd ⟨us, []⟩ (ps.zip us)) (r : Vals vs us) (hl : vs.length = ps.length) (I : Inv Y pins σ H s) (hr : Y.A.depth < recursionLimit) (hh : Y.A.handled = none) (hcl : ∀ (n : Nat) y c, (y, c) ∈ cellsFrom (n + 1) scope.names [] → (cellsFrom (n + 1) scope.names []).lookup y = some c) :
    wpAny (model Y.prog Y.w) Y.A (PySem.call (.ref f) us) (fun u s' => ∃ cd a g oa s1, cd = fd.code ∧ u = .ref a ∧ GMd Y pins σ H s N qual scope body f cd vs a g oa s1 s') E s := by
  have KX := I.kIn
  obtain ⟨oc, od, dV, kV, doc, pm, an, cdv, ct, osl, rfl, lk, hcd, _, _⟩ := F.ex
  refine wpAny_call (codeAny_call_generator hr (KX _ _ lk) rfl S.co S.gen rfl (PySem.W.codeRec_of KX hcd) (hb _ _ _ _ (wpAny_newFunctionEnv_cells S.kind (fun y hy => ?_) fun env he s1 x => ?_)))
  · have hp := (List.of_mem_zip (show (y.1, y.2) ∈ ps.zip us from hy)).1
    exact (S.par y.1 hp).imp id fun z => ⟨z, PySem.W.cellsFrom_some _ _ _ (.inl z)⟩
  subst he
  have lim1 : s1.heap.NoLimit := I.nolimit.keeps x.toInCall.keep
  have J := inv_startG (E := noE) S hh I.env0 hl r x
  obtain ⟨h1, tk, es1, hk1⟩ := x.done
  have lt1 : s.heap.objs.size < s1.heap.objs.size := x.toInCall.ns.lt
  refine ⟨lim1, ?_⟩
  have hobj : ∀ b ∈ frL s.heap.objs.size scope, s.heap.objs.size ≤ b ∧ ∃ o, s1.heap.get? b = some o := fun b hb => by
    rcases List.mem_cons.mp hb with rfl | hb
    · obtain ⟨o, _, _, ho, _⟩ := x.toInCall.ns
      exact ⟨Nat.le_refl _, o, ho⟩
    · obtain ⟨⟨y, c⟩, hy, rfl⟩ := List.mem_map.mp hb
      refine ⟨Nat.le_of_lt (x.above y c hy), ?_⟩
      obtain ⟨o, ho, _⟩ := x.cell y c (hcl _ y c hy)
      exact ⟨o, ho⟩
  have main : ∀ (go : Obj) (nm qn : Value) (tk2 : Nat), go.cls = .type "generator" → go.data = .fields #[.int s1.gens.size 0, nm, qn] → go.slots = #[] → (∀ h : Heap, (h.push go).get? h.objs.size = some go) →
      ∃ cd a g oa s1', cd = cdv ∧ Value.ref s1.heap.objs.size = Value.ref a ∧ GMd Y pins σ H s N qual scope body f cd vs a g oa s1' { s1 with gens := s1.gens.push (.fresh (.func body (envOfC qual scope s.heap.objs.size f cdv))), toks := tk2, heap := s1.heap.push go } := by
    intro go nm qn tk2 hc hd hs hp
    have k : ∀ b u, s1.heap.get? b = some u → (s1.heap.push go).get? b = some u := fun b u e => Heap.get?_push_of_some _ e
    have I1 := tell_ok (tk := tk) I (h1 := s1.heap) x.toInCall.keep hobj
    have eg : s1.gens = s.gens := by rw [es1]
    have I2 := Inv.laid (s := { s with heap := s1.heap, toks := tk }) (h' := s1.heap.push go) (t' := tk2) (a := s1.heap.objs.size) (o := XO s1.heap.objs.size go) I1 k (Nat.le_refl _) (xo_ok (hp s1.heap))
    have e2 : ({ s1 with gens := s1.gens.push (.fresh (.func body (envOfC qual scope s.heap.objs.size f cdv))), toks := tk2, heap := s1.heap.push go } : Shared) = re { s with heap := s1.heap.push go, toks := tk2 } (s1.gens.push (.fresh (.func body (envOfC qual scope s.heap.objs.size f cdv)))) := by rw [es1]
    rw [e2]
    refine ⟨cdv, s1.heap.objs.size, s1.gens.size, go, s1, rfl, rfl, J, fun b hb => ?_, inv_bare (s := { s with heap := s1.heap.push go, toks := tk2 }) (T' := s.gens) I2 (AllBare.push (by rw [eg]; exact I.bare) rfl), fun b hb => ?_, lt1, Nat.le_of_eq (by rw [eg]), ?_, ⟨hc, nm, qn, hd⟩, ⟨go, nm, qn, hp s1.heap, hc, hd, hs⟩, ?_, Array.getElem?_push_size ..⟩
    · obtain ⟨h1, o, h2⟩ := hobj b hb
      exact ⟨h1, o, h2, k b o h2⟩
    · obtain ⟨h1, o, h2⟩ := hobj b hb
      exact Nat.ne_of_lt (Heap.lt_size h2)
    · show _ < (s1.gens.push _).size
      rw [Array.size_push]; exact Nat.lt_succ_self _
    · unfold mark
      rw [hs]
      rfl
  exact main _ _ _ _ rfl rfl rfl fun h => Heap.get?_push_size _ rfl
end NwG
end
section
/-! A def within a def: its making, and what of the abstract heap stands: all but the table. -/
namespace NwG
open PySem PySem.Spec PyProof.Rows L2 NwB NwM NdefX LamX
section
variable {X : Cx} {pins : List (Addr × Obj)} {σ : L2.St} {H : Hp} {s : Shared} {nm : Nat → Nat → PySem.Str} {c P : Addr} {name : PySem.Str} {params : Arguments} {body : List Stmt} {scope : Scope} {pos : Pos}
/-- what the making leaves -/
structure Nd (X : Cx) (P : Addr) (nm : Nat → Nat → PySem.Str) (mk : Addr → NF) (H : Hp) (f c' : Addr) (H1 : Hp) : Prop where
  kept : ∀ b o, b ≠ P → H b = some o → H1 b = some o
  grow : ∀ ps, H P = some (.tbl ps) → ∃ more, H1 P = some (.tbl (ps ++ more))
  tab : TabN H1 P nm
  new : H f = none
  fn : H1 f = some (FnO f (mk c'))
  code : H1 c' = some (CodeO c' (mk c').qual)
abbrev mkN (X : Cx) (name : PySem.Str) (params : Arguments) (body : List Stmt) (scope : Scope) : Addr → NF := fun c' => ⟨name, X.env.qual ++ name, params, body, scope, cloFrom X.env.cells scope.names [], c'⟩
theorem ndef_make2 {E Q : Value → Shared → Prop} (I : Inv X pins σ H s) (TB : TabB X.base X.mg c P) (hcode : X.env.code = .ref c) (hn : nm pos.line pos.col = X.env.qual ++ name) (hT : TabN H P nm) (hfree : ∀ y ∈ scope.names, y.2 = .free → ∃ c, X.env.cells.lookup y.1 = some c)
    (h : ∀ (f c' : Addr) (H1 : Hp) (s' : Shared), Inv X pins σ H1 s' → Nd X P nm (mkN X name params body scope) H f c' H1 → Q (.ref f) s') : wpAny (model X.prog X.w) X.A (makeFunction name (X.env.qual ++ name) params (.stmts body) scope X.env [] [] [] pos pos.line) Q E s := by
  obtain ⟨ps, hP, ht, ha⟩ := id hT
  have bP : s.heap.BuiltinsAt X.mg P := TB.bm.keeps I.bk
  have hP' : s.heap.get? P = some { cls := .none, data := .fields ps } := I.hok P _ hP
  have kG := I.mod.glob.keeps I.bk
  have kC := TB.code.keeps I.bk
  cases hc : codeAmong pos ps.toList with
  | some cv =>
    obtain ⟨c', rfl, hco⟩ := ha pos cv hc
    rw [hn] at hco
    refine PySem.W.makeFunction_hit (mg := X.mg) (c := c) (P := P) (ps := ps) (closure_ok hfree) I.ok.glob kG hcode kC hP' ht hc bP fun ctv doc h' tk hx hsz => ?_
    have I1 : Inv X pins σ H { s with heap := h', toks := tk } := I.kept hx
    have nF : H h'.objs.size = none := I1.hok.fresh (Nat.le_refl _)
    have up : ∀ b o, H b = some o → upd H h'.objs.size (FnO h'.objs.size (mkN X name params body scope c')) b = some o := fun b o e => by rw [upd_ne (ne_of_none e nF)]; exact e
    exact h _ c' _ _ (inv_fn (F := mkN X name params body scope c') (t' := tk) (doc := doc) (pm := (X.mg "__name__").getD .none) (ctv := ctv) I1 rfl) ⟨fun b o _ e => up b o e, fun q e => ⟨#[], by rw [up _ _ e]; simp⟩, TabN.ext hT up, nF, upd_same, up _ _ hco⟩
  | none =>
    refine PySem.W.makeFunction_K (mg := X.mg) (c := c) (P := P) (ps := ps) (closure_ok hfree) I.ok.glob kG hcode kC hP' ht hc TB.gP bP fun c' ctv doc h' tk hx hge hlt hrec htb => ?_
    obtain ⟨c2, oc, vs, t, e2, hoc, hd, hv⟩ := hrec
    cases e2
    have nC : H c' = none := I.hok.fresh hge
    have I1 := inv_table (t' := tk) (more := #[rawInt pos.line, rawInt pos.col, .ref c']) (h' := h') I hP (fun b o hb e => hx b o hb e) htb hge ⟨oc, vs, t, hoc, hd, hv⟩
    have nF := I1.hok.fresh (Nat.le_refl _)
    have nPc : P ≠ c' := ne_of_none hP nC
    have a1 : ∀ b o, b ≠ P → H b = some o → upd (upd H P (.tbl (ps ++ #[rawInt pos.line, rawInt pos.col, .ref c']))) c' (CodeO c' (X.env.qual ++ name)) b = some o := fun b o nb e => by rw [upd_ne (ne_of_none e nC), upd_ne nb]; exact e
    have up : ∀ b o, upd (upd H P (.tbl (ps ++ #[rawInt pos.line, rawInt pos.col, .ref c']))) c' (CodeO c' (X.env.qual ++ name)) b = some o → upd (upd (upd H P (.tbl (ps ++ #[rawInt pos.line, rawInt pos.col, .ref c']))) c' (CodeO c' (X.env.qual ++ name))) h'.objs.size (FnO h'.objs.size (mkN X name params body scope c')) b = some o := fun b o e => by
      rw [upd_ne (ne_of_none e nF)]; exact e
    have tP : upd (upd H P (.tbl (ps ++ #[rawInt pos.line, rawInt pos.col, .ref c']))) c' (CodeO c' (X.env.qual ++ name)) P = some (.tbl (ps ++ #[rawInt pos.line, rawInt pos.col, .ref c'])) := by rw [upd_ne nPc, upd_same]
    have eL : (ps ++ #[rawInt pos.line, rawInt pos.col, .ref c']).toList = ps.toList ++ [rawInt pos.line, rawInt pos.col, .ref c'] := by simp
    refine h _ c' _ _ (inv_fn (F := mkN X name params body scope c') (t' := tk) (doc := doc) (pm := (X.mg "__name__").getD .none) (ctv := ctv) I1 rfl) ⟨fun b o nb e => up _ _ (a1 b o nb e), fun q e => ?_, ⟨_, up _ _ tP, by rw [eL]; exact PySem.TriplesOk_snoc _ _ _ _ ht, fun p' cv hcv => ?_⟩, I.hok.fresh (Nat.le_trans hge (Nat.le_of_lt hlt)), upd_same, up _ _ upd_same⟩
    · rw [hP] at e; cases e
      exact ⟨_, up _ _ tP⟩
    · rw [eL] at hcv
      rcases among_app2 _ ht hcv with z | ⟨z, z1, z2⟩
      · obtain ⟨c0, w1, w2⟩ := ha p' cv z
        exact ⟨c0, w1, up _ _ (a1 _ _ (fun y => by rw [y, hP] at w2; exact codeO_ne _ (Option.some.inj w2).symm) w2)⟩
      · refine ⟨c', z, ?_⟩
        rw [← z1, ← z2, hn]
        exact up _ _ upd_same
/-- the statement -/
theorem ndef_G {T0 : Shared} {gf : Nat → Prop} {sub : Sub} {i : Nat} (I : IG X T0 gf sub pins σ H s) (hx : ∀ e s, X.xe e s → False) (TB : TabB X.base X.mg c P) (hcode : X.env.code = .ref c) (hn : nm pos.line pos.col = X.env.qual ++ name) (hT : TabN H P nm)
    (hfree : ∀ y ∈ scope.names, y.2 = .free → X.env.scope.names.lookup y.1 = some .cell ∨ X.env.scope.names.lookup y.1 = some .free) (hd0 : params.defaults = []) (hk0 : params.kw_defaults = []) (ha : annTrees params none X.env = []) (hN : X.N.Nodup) (hi : X.N[i]? = some name) (hl : Loc X.env.scope name) (hf : X.fn name = true ∨ X.env.scope.names.lookup name = some .local) :
    wpG (model X.prog X.w) X.A (exec (.FunctionDef name params body [] none [] scope none name pos) X.env) (fun fl s' => fl = .next ∧ ∃ f c' H1, IG X T0 gf sub pins (σ.set i (some (.ref f))) H1 s' ∧ Nd X P nm (mkN X name params body scope) H f c' H1) Emp s := by
  have hq : qualnameIn X.env name name = X.env.qual ++ name := by
    have hk : X.env.kindOf name = some .local ∨ X.env.kindOf name = some .cell := hl
    unfold qualnameIn
    rcases hk with k | k
    · rw [k]; first | rfl | exact if_neg (by decide)
    · rw [k]; first | rfl | exact if_neg (by decide)
  refine wpG_mono (emb (Q := fun fl s' => fl = .next ∧ ∃ f c' H1, Inv X pins (σ.set i (some (.ref f))) H1 s' ∧ Nd X P nm (mkN X name params body scope) H f c' H1) (E := Emp) (fun T hT2 => ?_) (fun a s' ⟨_, _, _, _, J, _⟩ => J.bare) fun _ _ z => z) (fun fl r ⟨T, ⟨e, f, c', H1, J, nd⟩, g⟩ => ⟨e, f, c', H1, I.then J g, nd⟩) fun _ _ z => z
  have I1 := inv_bare I.inv hT2
  refine PySem.W.nestDef_K hd0 hk0 ha ?_
  rw [hq]
  refine ndef_make2 I1 TB hcode hn hT (fun y hy e => (hfree y hy e).elim (fun z => I1.ok.has _ (.inl z)) fun z => I1.ok.has _ (.inr z)) fun f c' H1 s' J nd => ?_
  exact store_ok J hN hi hl (v := .ref f) rfl (fun s'' J2 => ⟨rfl, f, c', H1, J2, nd⟩) hf
end
end NwG
end
section
/-! arrangements: a generator that hands on extended([])'s items. -/
namespace NwG
open PySem PySem.Spec PyProof.Rows L2 NwB NwM NdefX LamX StX
def scArr : Scope := { kind := .function, names := [("width", .cell), ("extended", .cell)], isGenerator := true, isCoroutine := false, more := [] }
def arE (p : Nat → Pos) : Arguments := { posonlyargs := [], args := [{ arg := "beginning", annotation := none, pos := p 37 }], vararg := none, kwonlyargs := [], kw_defaults := [], kwarg := none, defaults := [] }
def bTop (p : Nat → Pos) : Expr := .Call (.Name "extended" (p 32)) [.List [] (p 33)] [] (p 34)
def bArr (p : Nat → Pos) : List Stmt := [.FunctionDef "extended" (arE p) (bExt p) [] none [] scExt none "extended" (p 31), .Expr (.YieldFrom (bTop p) (p 35)) (p 36)]
abbrev nA : List PySem.Str := ["width", "extended"]
theorem scA : GScope nA ["width"] scArr := ⟨rfl, rfl, rfl, by decide, rfl, by decide, by decide⟩
theorem cellsA (n : Nat) : cellsFrom (n + 1) scArr.names [] = [(("extended" : PySem.Str), n + 2), (("width" : PySem.Str), n + 1)] := rfl
theorem cellsA_at (n : Nat) : ∀ y c, (y, c) ∈ cellsFrom (n + 1) scArr.names [] → (cellsFrom (n + 1) scArr.names []).lookup y = some c := fun y c h => by
  rw [cellsA] at h ⊢
  rcases List.mem_cons.mp h with h | h
  · injection h with h1 h2
    subst h1 h2
    rfl
  · have h := List.mem_singleton.mp h
    injection h with h1 h2
    subst h1 h2
    rfl
abbrev envA (f2 n : Addr) (cd : Value) : Env := envOfC "arrangements" scArr n f2 cd
def xA (P : Program) (w : World) (K : PySem.W.Frag) (mg : PySem.Str → Option Value) (base : Heap) (f2 : Addr) (cd : Value) (s0 : Shared) (A : Around) (outer : List Env) (n : Addr) : Cx where
  prog := P
  w := w
  K := K
  mg := mg
  base := base
  A := A.deeper (envA f2 n cd)
  N := nA
  s_0 := s0
  H_0 := fun _ => none
  env := envA f2 n cd
  outer := outer
  stack := envA f2 n cd :: outer
  ex := []
  fn := fun _ => true
  calm := true
  pn := []
  xe := fun _ _ => False
/-- what holds throughout -/
structure ArS (P : Program) (w : World) (K : PySem.W.Frag) (mg : PySem.Str → Option Value) (base : Heap) (cA Pt : Addr) (W : Nat) : Prop where
  mod : Mod K mg base
  len_ : mg "len" = none
  list_ : mg "list" = none
  range_ : mg "range" = none
  W : W ≤ 1000
  tb : TabB base mg cA Pt
section
variable {P : Program} {w : World} {K : PySem.W.Frag} {mg : PySem.Str → Option Value} {base : Heap} {cA Pt f2 : Addr} {W : Nat} {s0 : Shared} {A : Around} {outer : List Env} {n : Addr} {p : Nat → Pos} {cd : Value}
theorem lookA {y : PySem.Str} {c : Addr} (e : (envA f2 n cd).cells.lookup y = some c) : (y = "width" ∧ c = n + 1) ∨ (y = "extended" ∧ c = n + 2) := by
  have e : (cellsFrom (n + 1) scArr.names []).lookup y = some c := e
  rw [cellsA] at e
  have := PySem.mem_of_lookup e
  rcases List.mem_cons.mp this with h | h
  · injection h with h1 h2; exact .inr ⟨h1, h2⟩
  · have h := List.mem_singleton.mp h
    injection h with h1 h2; exact .inl ⟨h1, h2⟩
theorem sta_A (x : ArS P w K mg base cA Pt W) (hd : A.handled = none) (hf : A.frames = some outer) (hb : base.objs.size ≤ n) (hl : ∀ b ∈ frs outer, b < n) : Sta (xA P w K mg base f2 cd s0 A outer n) A where
  mod := x.mod
  kind := rfl
  glob := rfl
  blt := rfl
  inj := fun y z c h1 h2 => by
    rcases lookA h1 with ⟨a1, a2⟩ | ⟨a1, a2⟩ <;> rcases lookA h2 with ⟨b1, b2⟩ | ⟨b1, b2⟩
    · rw [a1, b1]
    · rw [a2] at b2; exact absurd b2 (by simp)
    · rw [a2] at b2; exact absurd b2 (by simp)
    · rw [a1, b1]
  has := fun y hy => by
    have hy : scArr.names.lookup y = some .cell ∨ scArr.names.lookup y = some .free := hy
    rcases hy with hy | hy
    · have := PySem.mem_of_lookup hy
      simp only [scArr, List.mem_cons, Prod.mk.injEq, and_true, List.mem_nil_iff, or_false] at this
      rcases this with rfl | rfl
      · exact ⟨n + 1, rfl⟩
      · exact ⟨n + 2, rfl⟩
    · have := PySem.mem_of_lookup hy
      simp [scArr] at this
  cab := fun y c _ h => by
    rcases lookA h with ⟨_, r⟩ | ⟨_, r⟩
    · rw [r]; exact Nat.le_succ n
    · rw [r]; exact Nat.le_trans (Nat.le_succ n) (Nat.le_succ _)
  hd := hd
  dep := rfl
  stk := rfl
  fr := rfl
  exn := rfl
  pnn := rfl
  frames := hf
  bsz := hb
  low := hl
  xe := fun _ _ z => z
abbrev yA (P : Program) (w : World) (K : PySem.W.Frag) (mg : PySem.Str → Option Value) (base : Heap) (f2 : Addr) (cd : Value) (s0 : Shared) (A : Around) (outer : List Env) (n : Addr) (sw : Shared) (Hc : Hp) : Cx := Cxat (xA P w K mg base f2 cd s0 A outer n) sw Hc
abbrev lA (n : Addr) : List Addr := frL n scArr
/-- extended([]): a generator that has not begun -/
theorem arr_make {F : NF} {f c1 c2 : Addr} {gf : Nat → Prop} {pins : List (Addr × Obj)} {H Hc : Hp} {s sw W0 : Shared} (x : ExS P w K mg base F f c1 c2 W) (I : IG (yA P w K mg base f2 cd s0 A outer n sw Hc) W0 gf [] pins [some (.int W), some (.ref f)] H s)
    (hf : H f = some (FnO f F)) (hc : H F.c = some (CodeO F.c F.qual)) (hr : (A.deeper (envA f2 n cd)).depth < recursionLimit) :
    wpG (model P w) (A.deeper (envA f2 n cd)) (eval (bTop p) (envA f2 n cd)) (fun u r => ∃ (pb' n' a : Addr) (g' : Nat) (on oa : Obj), u = .ref a ∧ H pb' = none ∧ H n' = none ∧ H a = none ∧ pb' ≠ n' ∧ pb' ≠ a ∧ n' ≠ a ∧ r.heap.IsGen a g' ∧ GObj oa g' ∧ mark oa = 0 ∧ s.heap.objs.size ≤ n' ∧
      (∀ h : Heap, h.get? n' = some on → h.Ns n' fun y => [(("beginning" : PySem.Str), Value.ref pb')].reverse.lookup y) ∧
      CG (yA P w K mg base f2 cd s0 A outer n sw Hc) W0 gf g' (.fresh (.func F.body (envF F f n'))) [] pins [some (.int W), some (.ref f)] (upd (upd (upd H pb' (.lst [])) n' (XO n' on)) a (XO a oa)) r) Emp s := by
  refine wpG_mono (emb2 (Q := fun u s' => ∃ (pb' a n' : Addr) (g' : Nat) (on oa : Obj) (s2 : Shared), u = .ref a ∧ H pb' = none ∧ s.heap.objs.size ≤ s2.heap.objs.size ∧ s.gens.size ≤ s2.gens.size ∧ n' = s2.heap.objs.size ∧ HOk P w (upd H pb' (.lst [])) s2.heap ∧
      Made (yA P w K mg base f2 cd s0 A outer n sw Hc) pins [some (.int W), some (.ref f)] (upd H pb' (.lst [])) s2 n' a g' on oa s' ∧ s'.gens[g']? = some (.fresh (.func F.body (envF F f n'))) ∧
      ∀ h : Heap, h.get? n' = some on → h.Ns n' fun y => [(("beginning" : PySem.Str), Value.ref pb')].reverse.lookup y) (fun T hT hTs => ?_) (fun a s' ⟨_, _, _, _, _, _, _, _, _, _, _, _, _, m, _⟩ => m.inv.bare)) (fun u r hu => ?_) fun _ _ z => z
  · have I1 := inv_bare I.inv hT
    have ha : PE (yA P w K mg base f2 cd s0 A outer n sw Hc) (.List [] (p 33)) _ := pe_lst pa_nil
    refine wpAny_Call_Name_kw (thn (grows ((pe_var (X := yA P w K mg base f2 cd s0 A outer n sw Hc) (i := 1) (pos := p 32) rfl (.inr (.inl rfl))).run pins _ _ H (fun v H1 => v = .ref f ∧ H1 = H) I1 ⟨.ref f, rfl, rfl, rfl⟩)) fun u s1 hu1 => ?_)
    obtain ⟨y1, y2, v, H1, J1, r1, q1⟩ := hu1
    obtain ⟨rfl, rfl⟩ := q1
    obtain rfl : u = Value.ref f := r1
    refine PySem.W.callWith_F (first := []) (fnAt_of J1 hf) ?_ rfl rfl
    show wpAny _ _ (spliced ((false, eval (.List [] (p 33)) (envA f2 n cd)) :: backTo (p 34) (starEach [] (envA f2 n cd)))) _ _ s1
    refine Calls.spliced_cons (thn (grows (ha.run pins s1 _ H1 (fun v H' => ∃ l, v = .ref l ∧ H1 l = none ∧ H' = upd H1 l (.lst [])) J1 ?_)) fun v s2 hv => ?_)
    · exact ⟨line1000 (by simp), fun l hl => ⟨l, rfl, hl, rfl⟩⟩
    · obtain ⟨z1, z2, v', H2, J2, rv, l, rfl, hl, rfl⟩ := hv
      obtain rfl : v = Value.ref l := rv
      refine Calls.spliced_nil ⟨fnAt_of J2 (show upd H1 l (.lst []) f = some (FnO f F) by rw [upd_ne (ne_of_none hf hl)]; exact hf), ?_⟩
      refine thn (ext_call x J2 (by rw [upd_ne (ne_of_none hf hl)]; exact hf) (show upd H1 l (.lst []) F.c = some (CodeO F.c F.qual) by rw [upd_ne (ne_of_none hc hl)]; exact hc) hr) fun u s' hu => ?_
      obtain ⟨n', a, g', on, oa, e1, m, e2, e3, e4⟩ := hu
      exact ⟨l, a, n', g', on, oa, s2, e1, hl, Nat.le_trans y1 z1, by rw [← hTs]; exact Nat.le_trans y2 z2, e2, J2.hok, m, by rw [e2]; exact e3, e4⟩
  · obtain ⟨T, ⟨pb', a, n', g', on, oa, s2, rfl, hl, h1, h2, e2, hok, m, e3, e4⟩, g, hsz, hT, hfr⟩ := hu
    have na : s2.heap.objs.size ≤ a := Nat.le_trans m.nle (Nat.le_of_lt m.lt)
    have f1 := hok.fresh m.nle
    have f2 := hok.fresh na
    have u1 : ∀ b, upd H pb' (.lst []) b = none → pb' ≠ b ∧ H b = none := fun b e => by
      refine ⟨fun z => ?_, upd_none e⟩
      rw [← z, upd_same] at e; cases e
    refine ⟨pb', n', a, g', on, oa, rfl, hl, (u1 _ f1).2, (u1 _ f2).2, (u1 _ f1).1, (u1 _ f2).1, Nat.ne_of_lt m.lt, m.is_, m.obj, m.mz, Nat.le_trans h1 m.nle, e4, ⟨inv_bare m.inv AllBare.empty, (I.gt.quiet g).imp fun i hi => by obtain ⟨_, z, _⟩ := hi; simp at z, hfr _ _ e3, fun _ z => by simp at z, fun _ z => by simp at z, .inr ?_, fun _ z => by simp at z, Nat.le_trans I.hsz hsz⟩⟩
    exact Nat.le_trans I.gt.size (Nat.le_trans h2 m.gle)
end
end NwG
end
section
/-! arrangements: its contract. -/
namespace NwG
open PySem PySem.Spec PyProof.Rows L2 NwB NwM NdefX LamX StX
abbrev qExt : PySem.Str := ("arrangements" : PySem.Str) ++ ".<locals>." ++ "extended"
abbrev nmA : Nat → Nat → PySem.Str := fun _ _ => qExt
abbrev tA (Pt : Addr) : List NTab := [(Pt, nmA)]
abbrev shA (Pt : Addr) : Heap → Hp → Prop := fun _ H => TabsN (tA Pt) H
section
variable {P : Program} {w : World} {K : PySem.W.Frag} {mg : PySem.Str → Option Value} {base : Heap} {cA Pt f2 : Addr} {W : Nat} {s0 : Shared} {A : Around} {outer : List Env} {n : Addr} {p : Nat → Pos}
theorem arr_sleep (x : ArS P w K mg base cA Pt W) {X0 : Cx} {H0 : Hp} {s1 : Shared} {D : Cds} {O : Own} {g : Nat} (I0 : Inv X0 [] [some (.int W), none] H0 s1) (eN : X0.N = nA) (ee : X0.env = envA f2 n (.ref cA)) (hO : ∀ b ∈ lA n, ∃ o, s1.heap.get? b = some o ∧ (b, XO b o) ∈ O) (hr : Room (2 * W + 4) A) (hf : A.frames = some outer)
    (hb0 : base.objs.size ≤ n) (hlo : ∀ b ∈ frs outer, b < n) : Sleep (Cxgp (xA P w K mg base f2 (.ref cA) s0 A outer n) A g (shA Pt) (tA Pt)) (toV (arr W W [])) D O [] (.fresh (.func (bArr p) (envA f2 n (.ref cA)))) := by
  refine sleep_iff.mpr fun s Hc pre => ?_
  have S : Sta (xA P w K mg base f2 (.ref cA) s0 A outer n) A := sta_A x hr.hd hf hb0 hlo
  have cin : ∀ y c, (envA f2 n (.ref cA)).cells.lookup y = some c → c ∈ lA n := fun y c e => by
    rcases lookA e with ⟨_, r⟩ | ⟨_, r⟩
    · rw [r]; simp [cellsA]
    · rw [r]; simp [cellsA]
  have nle : ∀ b ∈ lA n, n ≤ b := fun b hb => by
    simp only [frL, cellsA, List.map_cons, List.map_nil, List.mem_cons, List.mem_nil_iff, or_false] at hb
    rcases hb with rfl | rfl | rfl
    · exact Nat.le_refl _
    · exact Nat.le_add_right _ _
    · exact Nat.le_add_right _ _
  have I : IG (yA P w K mg base f2 (.ref cA) s0 A outer n s Hc) s (At []) [] [] [some (.int W), none] (unt (lA n) Hc) s :=
    rebase (X := xA P w K mg base f2 (.ref cA) s0 A outer n) (X0 := X0) (L := lA n) S eN ee (inv_bare (T' := s1.gens) I0 AllBare.empty) pre (fun b hb => by obtain ⟨o, h1, h2⟩ := hO b hb; exact ⟨nle b hb, o, h1, h2⟩) List.mem_cons_self (fun _ z => by simp at z) fun y c e => .inl (cin y c e)
  have kp0 : Kp (tA Pt) Hc O (unt (lA n) Hc) := Kp.unt fun b hb => by
    obtain ⟨o, _, h2⟩ := hO b hb
    exact ⟨⟨o, pre.own _ h2⟩, _, h2, rfl⟩
  have hsh : TabsN (tA Pt) Hc := pre.sh
  have hT : TabN (unt (lA n) Hc) Pt nmA := kp0.tab hsh _ List.mem_cons_self
  refine gg_func (gg_execs_cons (gg_wrap ?_))
  rw [GenW.over_func]
  refine wpG_mono (ndef_G (X := yA P w K mg base f2 (.ref cA) s0 A outer n s Hc) (i := 1) (c := cA) (P := Pt) (nm := nmA) I (fun _ _ z => z) x.tb rfl rfl hT (by show ∀ y ∈ scExt.names, y.2 = .free → scArr.names.lookup y.1 = some .cell ∨ scArr.names.lookup y.1 = some .free; decide) rfl rfl rfl (by show nA.Nodup; decide) rfl (.inr rfl) (.inl rfl)) (fun fl s2 ⟨e, f, c', H1, I1, nd⟩ => ?_) fun _ _ z => z.elim
  subst e
  refine gg_execs_cons (gg_YieldFrom rfl (hi := rfl) ?_)
  rw [GenW.over_func]
  -- the function that was made
  have xs : ExS P w K mg base (mkN (yA P w K mg base f2 (.ref cA) s0 A outer n s Hc) "extended" (arE p) (bExt p) scExt c') f (n + 1) (n + 2) W := by
    refine ⟨x.mod, x.len_, x.list_, x.range_, x.W, ⟨p, qExt, arE p, _, c', rfl⟩, rfl, rfl, fun y c e => ?_, Nat.ne_of_lt (Nat.lt_succ_self (n + 1)), fun _ _ _ _ => rfl⟩
    refine lookA (f2 := f2) (cd := .ref cA) (clo_cm (fun z hz hfr => ?_) e)
    have h : scArr.names.lookup z.1 = some .cell ∨ scArr.names.lookup z.1 = some .free := (show ∀ y ∈ scExt.names, y.2 = .free → scArr.names.lookup y.1 = some .cell ∨ scArr.names.lookup y.1 = some .free by decide) z hz hfr
    exact S.has z.1 h
  have hc1 : H1 c' = some (CodeO c' qExt) := nd.code
  refine wpG_mono (arr_make (n := n) (p := p) xs I1 nd.fn nd.code (hr.deeper (k := 2 * W + 3) _).depth) (fun u r3 hu => ?_) fun _ _ z => z
  obtain ⟨pb', n', a, g', on, oa, rfl, hp0, hn0, ha0, d1, d2, d3, isg, gob, mz, hn', hon, C⟩ := hu
  refine ⟨a, g', rfl, isg, fun k1 l1 p1 hk1 => ?_⟩
  have e1 := hk1 _ rfl
  have tk : ∀ b o, H1 b = some o → b ≠ pb' ∧ b ≠ n' ∧ b ≠ a := fun b o e => ⟨ne_of_none e hp0, ne_of_none e hn0, ne_of_none e ha0⟩
  have kpt : ∀ b o, H1 b = some o → upd (upd (upd H1 pb' (.lst [])) n' (XO n' on)) a (XO a oa) b = some o := fun b o e => by
    obtain ⟨z1, z2, z3⟩ := tk b o e
    rw [upd_ne z3, upd_ne z2, upd_ne z1]; exact e
  have hPt : ∃ ps, unt (lA n) Hc Pt = some (.tbl ps) := by obtain ⟨ps, h, _⟩ := hT; exact ⟨ps, h⟩
  have kp1 : Kp (tA Pt) Hc O H1 := by
    refine ⟨fun b o hb h1 h2 => ?_, fun b ps hm h => ?_, fun _ t ht => ?_, fun c q st h => ?_⟩
    · have z := kp0.ext b o hb h1 h2
      refine nd.kept b o (fun e => ?_) z
      rcases hb with hb | hb
      · exact hb _ List.mem_cons_self e.symm
      · obtain ⟨ps, hps⟩ := hPt
        rw [e, hps] at z
        exact hb ps (Option.some.inj z).symm
    · obtain ⟨t, ht, e⟩ := hm
      rw [List.mem_singleton.mp ht] at e
      have e : Pt = b := e
      obtain ⟨m1, z1⟩ := kp0.tbl b ps ⟨_, List.mem_cons_self, e⟩ h
      rw [← e] at z1
      obtain ⟨m2, z2⟩ := nd.grow _ z1
      exact ⟨m1 ++ m2, by rw [← e, z2, Array.append_assoc]⟩
    · rw [List.mem_singleton.mp ht]; exact nd.tab
    · have z := kp0.code c q st h
      refine nd.kept c _ (fun e => ?_) z
      obtain ⟨ps, hps⟩ := hPt
      rw [e, hps] at z
      exact tbl_st (a := c) (by rw [Option.some.inj z]; exact st)
  have nlt : ∀ b ∈ lA n, b < n' := fun b hb => by
    rcases List.mem_cons.mp hb with rfl | hb
    · exact Nat.lt_of_lt_of_le I1.inv.lt hn'
    · obtain ⟨⟨y, c⟩, hy, rfl⟩ := List.mem_map.mp hb
      obtain ⟨v, o, ho, _⟩ := I1.inv.cell y c (cellsA_at n y c hy)
      exact Nat.lt_of_lt_of_le (Heap.lt_size ho) hn'
  have F3 : Fr (xA P w K mg base f2 (.ref cA) s0 A outer n) (tA Pt) [] (fun c o => c = c' ∧ o = CodeO c' qExt) (lA n) [(f, FnO f (mkN (yA P w K mg base f2 (.ref cA) s0 A outer n s Hc) "extended" (arE p) (bExt p) scExt c'))] Hc O (upd (upd (upd H1 pb' (.lst [])) n' (XO n' on)) a (XO a oa)) r3 := by
    refine ⟨fun b hb => ?_, fun r hr' => ?_, kp1.full kpt, fun _ z => by simp at z, fun c q ⟨h1, h2⟩ => ?_⟩
    · refine ⟨nle b hb, ?_⟩
      rcases List.mem_cons.mp hb with rfl | hb
      · exact ⟨C.inv.free, inv_locals C.inv⟩
      · obtain ⟨⟨y, c⟩, hy, rfl⟩ := List.mem_map.mp hb
        have e := cellsA_at n y c hy
        obtain ⟨v, o, ho, _⟩ := C.inv.cell y c e
        exact ⟨C.inv.freeC y c e, o, ho⟩
    · rw [List.mem_singleton.mp hr']
      exact ⟨trivial, kpt _ _ nd.fn, kp0.mem nd.new⟩
    · subst h1 h2
      exact ⟨.inl ⟨_, rfl⟩, kpt _ _ hc1⟩
  have ys : YS (xA P w K mg base f2 (.ref cA) s0 A outer n) A (shA Pt) (tA Pt) [] (fun c o => c = c' ∧ o = CodeO c' qExt) (lA n) [(f, FnO f (mkN (yA P w K mg base f2 (.ref cA) s0 A outer n s Hc) "extended" (arE p) (bExt p) scExt c'))] a [] [some (.int W), some (.ref f)]
      [.ret k1 none false l1 (.func (bArr p) (envA f2 n (.ref cA))) p1 []] n' (shE (mkN (yA P w K mg base f2 (.ref cA) s0 A outer n s Hc) "extended" (arE p) (bExt p) scExt c') f (n + 1) (n + 2) W) := by
    obtain ⟨o1, o2, o3, o4⟩ := ov_yf (A := A) (a := a) (c := .func (bArr p) (envA f2 n (.ref cA))) (fs := []) (k := k1) (g := false) (l := l1) (kp := []) (p := p1)
    rw [GenW.over_func] at o1 o2 o3 o4
    refine ⟨S, rfl, rfl, o1.trans hr.hd, ?_, o3.trans (Around.frames_deeper hf), List.mem_cons_self, fun _ z => by simp at z, fun y c e => .inl (cin y c e), fun _ _ _ _ z => by simp at z, nlt, fun y c e => nlt _ (cin y c e), fun sw Hc2 O2 H s hs I F => ?_⟩
    · rw [o2]; exact (hr.deeper (k := 2 * W + 3) _).depth
    · obtain ⟨m, _, hl⟩ := I.loc
      have cellAt : ∀ (i : Nat) (y : PySem.Str) (v : V) (cc : Addr), nA[i]? = some y → ([some (.int W), some (.ref f)] : L2.St)[i]? = some (some v) → scArr.names.lookup y = some .cell → (envA f2 n (.ref cA)).cells.lookup y = some cc → ∃ u, RelV v u ∧ s.heap.IsCell cc (some u) := fun i y v cc h1 h2 h3 h4 => by
        obtain ⟨u, rv, l⟩ := hl i y v h1 h2 (.inr (.inl h3))
        rcases l with ⟨l, _⟩ | ⟨_, c2, e, z'⟩
        · have l' : scArr.names.lookup y = some .local := l
          rw [h3] at l'; cases l'
        · have e' : (envA f2 n (.ref cA)).cells.lookup y = some c2 := e
          rw [h4] at e'; cases e'
          exact ⟨u, rv, z'⟩
      obtain ⟨u1, ⟨t, rfl⟩, h1⟩ := cellAt 0 "width" (.int W) (n + 1) rfl rfl (by decide) rfl
      obtain ⟨u2, rfl, h2⟩ := cellAt 1 "extended" (.ref f) (n + 2) rfl rfl (by decide) rfl
      exact ⟨I.freeC "width" _ rfl, ⟨t, h1⟩, I.freeC "extended" _ rfl, h2, (F.htr _ List.mem_cons_self).2.1, (F.cdf c' _ ⟨rfl, rfl⟩).2⟩
  rw [← List.append_nil (toV (arr W W []))]
  refine yf_loop ys (rest := []) (fun sw Hc O gf H s hs I F => ?_) (toV (arr W W [])) (fun _ _ => False) s Hc O [] _ r3 (.fresh (.func (bExt p) (envF (mkN (yA P w K mg base f2 (.ref cA) s0 A outer n s Hc) "extended" (arE p) (bExt p) scExt c') f n'))) [] [(n', XO n' on), (pb', .lst [])] oa hsh C F3
    ⟨upd_same, gob, fun r hr' => ?_, fun r hr' => ?_, fun r hr' => ?_⟩ (Int.le_of_eq mz) (fun r hr' => ?_) (fun r hr' => ?_) (fun _ _ z => z.elim) ?_
  · refine gg_leaf (.ok (.ret .none)) ?_
    rw [e1]
    exact gg_end (sr_end S I F.kp)
  · rcases List.mem_cons.mp hr' with rfl | hr'
    · rw [upd_ne d3]; exact upd_same
    · rw [List.mem_singleton.mp hr', upd_ne d2, upd_ne d1]; exact upd_same
  · rcases List.mem_cons.mp hr' with rfl | hr'
    · trivial
    · rw [List.mem_singleton.mp hr']; trivial
  · rcases List.mem_cons.mp hr' with rfl | hr'
    · exact d3
    · rw [List.mem_singleton.mp hr']; exact d2
  · rcases List.mem_cons.mp hr' with rfl | hr'
    · exact kp1.mem ha0
    · rcases List.mem_cons.mp hr' with rfl | hr'
      · exact kp1.mem hn0
      · rw [List.mem_singleton.mp hr']; exact kp1.mem hp0
  · rw [List.mem_singleton.mp hr']
    obtain ⟨z1, z2, z3⟩ := tk _ _ nd.fn
    refine ⟨z3, fun r2 hr2 => ?_⟩
    rcases List.mem_cons.mp hr2 with rfl | hr2
    · exact Ne.symm z2
    · rw [List.mem_singleton.mp hr2]; exact Ne.symm z1
  · refine ext_sleeps (s0 := s0) xs W [] _ _ n' g' pb' on _ _ (by simp) (room_yf hr GenW.over_func) ys.fr (Nat.le_trans hb0 (Nat.le_of_lt (nlt n List.mem_cons_self))) (fun b hb' => ?_) (nlt _ (by simp [cellsA])) (nlt _ (by simp [cellsA])) List.mem_cons_self hon (List.mem_cons_of_mem _ List.mem_cons_self) fun r hr' => ?_
    · rcases List.mem_cons.mp (show b ∈ n :: frs outer from hb') with rfl | hb'
      · exact nlt _ List.mem_cons_self
      · exact Nat.lt_trans (hlo b hb') (nlt n List.mem_cons_self)
    · obtain ⟨y1, y2, y3⟩ := tk _ _ nd.fn
      obtain ⟨y4, y5, y6⟩ := tk _ _ hc1
      rcases List.mem_cons.mp hr' with rfl | hr'
      · exact ⟨Ne.symm y2, Ne.symm y5⟩
      · rw [List.mem_singleton.mp hr']; exact ⟨Ne.symm y1, Ne.symm y4⟩
end
end NwG
end
section
/-! What the top leaves, for the promises; the small checks. -/
namespace Nw
open PySem PySem.Spec PyProof.Rows L2
structure Tx (K : PySem.W.Frag) (mg : Str → Option Value) (base : Heap) : Prop where
  c : He5.SaysA fa fn K
  ex : exB K = true
  kin : K.In base
  ns : base.Ns mainGlobals mg
section
variable {P : Program} {w : World} {K : PySem.W.Frag} {mg : Str → Option Value} {base : Heap}
theorem Tx.g (t : Tx K mg base) (i : Nat) {x : Str} (h : fa[i]? = some (.glo x) := by rfl) : mg x = some (.ref (He.ga K x)) := He.glo_ok t.kin t.ns (t.c.fact i h)
theorem Tx.f (t : Tx K mg base) (i : Nat) {x : Str} (h : fa[i]? = some (.free x) := by rfl) : mg x = none := He.free_ok t.kin t.ns (t.c.fact i h)
theorem Tx.len (t : Tx K mg base) : mg "len" = none := t.f 44
theorem Tx.range (t : Tx K mg base) : mg "range" = none := t.f 45
theorem Tx.isinstance (t : Tx K mg base) : mg "isinstance" = none := t.f 46
theorem Tx.list (t : Tx K mg base) : mg "list" = none := t.f 47
theorem Tx.tuple (t : Tx K mg base) : mg "tuple" = none := t.f 48
theorem Tx.int (t : Tx K mg base) : mg "int" = none := t.f 49
theorem Tx.bool (t : Tx K mg base) : mg "bool" = none := t.f 50
theorem Tx.sum (t : Tx K mg base) : mg "sum" = none := t.f 51
theorem Tx.sorted (t : Tx K mg base) : mg "sorted" = none := t.f 52
theorem Tx.all (t : Tx K mg base) : mg "all" = none := t.f 53
theorem Tx.zip (t : Tx K mg base) : mg "zip" = none := t.f 54
theorem Tx.enumerate (t : Tx K mg base) : mg "enumerate" = none := t.f 55
theorem Tx.abs (t : Tx K mg base) : mg "abs" = none := t.f 56
theorem Tx.min (t : Tx K mg base) : mg "min" = none := t.f 57
theorem Tx.max (t : Tx K mg base) : mg "max" = none := t.f 58
/-- a def's promise -/
def Okd (P : Program) (w : World) (K : PySem.W.Frag) (mg : Str → Option Value) (base : Heap) (k : Nat) (d : He5.DefA) (ps : List Str) (sp : Sp) : Prop :=
  ∃ fd, FunD K d.name d.qual d.params d.body d.scope [] [] (d.at_ K) fd ∧ FnOk P w K mg base CX0 k (d.at_ K) fd ps sp ∧ Binds K fd ps []
theorem okd_of (t : Tx K mg base) (i : Nat) {d : He5.DefA} (h : fn[i]? = some d) {N ps : List Str} {k : Nat} {sp : Sp} (S : FnScope N ps d.scope) (hd : d.dvs K = []) (hk : d.kws K = [])
    (b : ∀ (kV doc pm : Value) (an : Option Addr) (cdv ct : Value) (us : List Value), us.length = ps.length → bindArgs (PySem.W.fnOf d.name d.qual d.params d.body d.scope .none kV doc pm an cdv ct) ⟨us, []⟩ = pure (ps.zip us)) (len : ∀ vs H Q E, sp vs H Q E → vs.length = ps.length)
    (body : ∀ (cdv : Value) (A : Around) (outer : List Env) (s : Shared) (H : Hp) (vs : List V) (Q : VK) (E : XK), Room k (A.deeper (envOfC d.qual d.scope s.heap.objs.size (d.at_ K) cdv)) → sp vs H Q E →
      ∃ t, PSs (cxOf CX0 P w K mg base N d.qual d.scope (d.at_ K) cdv A outer s H E) d.body t ∧ t { nx := fun _ H' => Q .non H', rt := Q } (start N vs) H) : Okd P w K mg base (k + 1) d ps sp := by
  obtain ⟨fd, F⟩ := t.c.def_ i h
  rw [hd, hk] at F
  exact ⟨fd, F, F.ok S len body, F.bindsN b⟩
theorem okd_mono {k k' : Nat} {d : He5.DefA} {ps : List Str} {sp : Sp} (o : Okd P w K mg base k d ps sp) (h : k ≤ k') : Okd P w K mg base k' d ps sp := let ⟨fd, F, G, b⟩ := o; ⟨fd, F, G.mono h, b⟩
theorem pe_cl {X : Cx} {k : Nat} {d : He5.DefA} {ps : List Str} {sp : Sp} {x : Str} {p pos : Pos} {e : Expr} {es : List Expr} {t : TA} (o : Okd X.prog X.w X.K X.mg X.base k d ps sp) (hr : Room k X.A) (hg : Gl X x) (hm : X.mg x = some (.ref (d.at_ X.K))) (ha : PA X (e :: es) t) (hdb : (x == ("__debug__" : Str)) = false := by decide)
    (he : starEach (e :: es) X.env = (false, eval e X.env) :: starEach es X.env := by rfl) (hpl : (backTo pos (starEach es X.env)).any (·.1) = false := by rfl) : PE X (.Call (.Name x p) (e :: es) [] pos) (tCall sp [] E0 t) := by
  obtain ⟨fd, F, G, b⟩ := o
  exact pe_call G hr hg hm F.kp b .nil pass0 ha hdb he hpl
/-! ### is_integer -/
def spIsInt : Sp := fun vs H Q _ => ∃ v a b : Int, vs = [.int v, .int a, .int b] ∧ Q (.bl (decide (a ≤ v) && decide (v ≤ b))) H
theorem ok_is_integer (t : Tx K mg base) : Okd P w K mg base 1 d_is_integer ["value", "low", "high"] spIsInt := by
  refine okd_of t 0 rfl (N := ["value", "low", "high"]) ⟨rfl, rfl, rfl, by decide +kernel, rfl, by decide +kernel, by decide +kernel⟩ rfl rfl (fun _ _ _ _ _ _ us hl => match us, hl with | [_, _, _], _ => rfl) (fun vs H Q E h => ?_) fun cdv A outer s H vs Q E hr h => ?_
  · obtain ⟨_, _, _, rfl, _⟩ := h
    rfl
  · obtain ⟨v, a, b, rfl, hq⟩ := h
    refine ⟨_, pss_one (ps_ret (pe_and (pe_callB call_isi (by rfl) t.isinstance (by decide +kernel) (pa_cons (pv 0) (pa_cons (pe_bltn (v := .ty "int") (by rfl) t.int (by decide +kernel) rfl) pa_nil)))
      (pe_and (pe_not (pe_callB call_isi (by rfl) t.isinstance (by decide +kernel) (pa_cons (pv 0) (pa_cons (pe_bltn (v := .ty "bool") (by rfl) t.bool (by decide +kernel) rfl) pa_nil)))) (pe_one (pe_chain op_le op_le (pv 1) (pv 0) (pv 2)))))), ?_⟩
    refine ⟨_, rfl, _, _, _, _, true, rfl, .ty "int", .base (.int v), kit_ty (by decide +kernel), true, rfl, ?_⟩
    rw [if_pos rfl]
    refine ⟨_, rfl, _, _, _, _, false, rfl, .ty "bool", .base (.int v), kit_ty (by decide +kernel), false, rfl, true, rfl, ?_⟩
    rw [if_pos rfl]
    refine ⟨_, rfl, _, rfl, _, _, rfl, rfl, _, rfl, ?_⟩
    by_cases h1 : a ≤ v
    · rw [if_pos (decide_eq_true h1)]
      refine ⟨_, rfl, _, _, rfl, rfl, ?_⟩
      rw [decide_eq_true h1] at hq
      simpa using hq
    · rw [decide_eq_false h1, if_neg Bool.false_ne_true]
      rw [decide_eq_false h1] at hq
      simpa using hq
end
end Nw
end
section
/-! Promises: checks, a network's making, its properties. -/
namespace Nw
open PySem PySem.Spec PyProof.Rows L2 ClX
abbrev nV (st : List Nat) : List V := st.map fun (k : Nat) => V.int (k : Int)
abbrev iV (xs : List Int) : List V := xs.map V.int
/-- a network stands at a -/
def Net (K : PySem.W.Frag) (H : Hp) (a : Addr) (W : Nat) (st : List Nat) : Prop := ∃ dx t, H a = some (.ins (He.ga K "Network") dx [("own_width", .int W), ("own_steps", .ref t)]) ∧ H t = some (.tup (nV st))
theorem Net.same {K : PySem.W.Frag} {H H' : Hp} {a : Addr} {W : Nat} {st : List Nat} (n : Net K H a W st) (s : Same H H') : Net K H' a W st := let ⟨dx, t, h1, h2⟩ := n; ⟨dx, t, s _ _ h1, s _ _ h2⟩
/-- a network's numbers -/
structure OkN (W : Nat) (st : List Nat) : Prop where
  lo : 1 ≤ W
  hi : W ≤ 40
  len : st.length ≤ 1000
  at_ : ∀ k ∈ st, 1 ≤ k ∧ k < W
section
variable {P : Program} {w : World} {K : PySem.W.Frag} {mg : Str → Option Value} {base : Heap}
theorem Tx.exs (t : Tx K mg base) : propB K "width" = true ∧ propB K "steps" = true ∧ cvalB K "MAX_WIDTH" 40 = true ∧ cvalB K "MAX_STEPS" 1000 = true ∧ creadB K = true := by
  have h := t.ex
  unfold exB at h
  simp only [Bool.and_eq_true] at h
  exact ⟨h.1, h.2.1, h.2.2.1, h.2.2.2.1, h.2.2.2.2⟩
theorem Tx.cread (t : Tx K mg base) : CRead K (He.ga K "Network") (.type "type") := by
  have h := t.exs.2.2.2.2
  unfold creadB at h
  rw [Bool.and_eq_true] at h
  exact ⟨h.1, He.eqO_ok h.2⟩
theorem cval_of {f : Str} {i : Int} (h : cvalB K f i = true) : ∃ u, CVal K (He.ga K "Network") (.type "type") f (.int i) u := by
  unfold cvalB at h
  split at h
  · rename_i j t e
    have := of_decide_eq_true h
    subst this
    exact ⟨_, e, t, rfl⟩
  · cases h
theorem Tx.maxw (t : Tx K mg base) : ∃ u, CVal K (He.ga K "Network") (.type "type") "MAX_WIDTH" (.int 40) u := cval_of t.exs.2.2.1
theorem Tx.maxs (t : Tx K mg base) : ∃ u, CVal K (He.ga K "Network") (.type "type") "MAX_STEPS" (.int 1000) u := cval_of t.exs.2.2.2.1
theorem Tx.net (t : Tx K mg base) : mg "Network" = some (.ref (He.ga K "Network")) := t.g 43
theorem Tx.cl (t : Tx K mg base) : Cls K (He.ga K "Network") := He.cls_ok (t.c.fact 61 (f := .cls "Network") rfl)
theorem Tx.nw (t : Tx K mg base) : NoAttr K (He.ga K "Network") "own_width" := He.noat_ok (t.c.fact 62 (f := .noat "Network" "own_width") rfl)
theorem Tx.ns_ (t : Tx K mg base) : NoAttr K (He.ga K "Network") "own_steps" := He.noat_ok (t.c.fact 63 (f := .noat "Network" "own_steps") rfl)
theorem Tx.mkr (t : Tx K mg base) : Mk K (He.ga K "Network") (He.ma K (He.ga K "Network") "__init__") := He.mkr_ok (t.c.fact 66 (f := .mkr "Network") rfl)
theorem prop_of {f : Str} (h : propB K f = true) : PropOf K (He.ga K "Network") f (He.ma K (He.ga K "Network") f) (pgA K "Network" f) := by
  unfold propB at h
  simp only [Bool.and_eq_true] at h
  obtain ⟨h1, h2, h3, h4⟩ := h
  refine ⟨He.eqO_ok h1, He.eqO_ok h2, of_decide_eq_true h3, ?_⟩
  unfold pgA
  split at h4
  · rename_i g r e
    rw [e]
    exact ⟨r, rfl⟩
  · cases h4
/-- is_any_integer -/
def spAnyInt : Sp := fun vs H Q _ => ∃ v : Int, vs = [.int v] ∧ Q (.bl true) H
theorem ok_is_any_integer (t : Tx K mg base) : Okd P w K mg base 1 d_is_any_integer ["value"] spAnyInt := by
  refine okd_of t 1 rfl (N := ["value"]) ⟨rfl, rfl, rfl, by decide +kernel, rfl, by decide +kernel, by decide +kernel⟩ rfl rfl (fun _ _ _ _ _ _ us hl => match us, hl with | [_], _ => rfl) (fun vs H Q E h => ?_) fun cdv A outer s H vs Q E hr h => ?_
  · obtain ⟨_, rfl, _⟩ := h
    rfl
  · obtain ⟨v, rfl, hq⟩ := h
    refine ⟨_, pss_one (ps_ret (pe_and (pe_callB call_isi (by rfl) t.isinstance (by decide +kernel) (pa_cons (pv 0) (pa_cons (pe_bltn (v := .ty "int") (by rfl) t.int (by decide +kernel) rfl) pa_nil)))
      (pe_one (pe_not (pe_callB call_isi (by rfl) t.isinstance (by decide +kernel) (pa_cons (pv 0) (pa_cons (pe_bltn (v := .ty "bool") (by rfl) t.bool (by decide +kernel) rfl) pa_nil))))))), ?_⟩
    refine ⟨_, rfl, _, _, _, _, true, rfl, .ty "int", .base (.int v), kit_ty (by decide +kernel), true, rfl, ?_⟩
    rw [if_pos rfl]
    exact ⟨_, rfl, _, _, _, _, false, rfl, .ty "bool", .base (.int v), kit_ty (by decide +kernel), false, rfl, hq⟩
/-- check_width -/
def spCheckW : Sp := fun vs H Q _ => ∃ W : Nat, vs = [.int W] ∧ 1 ≤ W ∧ W ≤ 40 ∧ Q .non H
theorem ok_check_width (t : Tx K mg base) : Okd P w K mg base 2 d_check_width_networks ["width"] spCheckW := by
  have G : Okd P w K mg base 1 d_is_integer ["value", "low", "high"] spIsInt := ok_is_integer t
  obtain ⟨u, cv⟩ := t.maxw
  refine okd_of t 2 rfl (N := ["width"]) ⟨rfl, rfl, rfl, by decide +kernel, rfl, by decide +kernel, by decide +kernel⟩ rfl rfl (fun _ _ _ _ _ _ us hl => match us, hl with | [_], _ => rfl) (fun vs H Q E h => ?_) fun cdv A outer s H vs Q E hr h => ?_
  · obtain ⟨_, rfl, _⟩ := h
    rfl
  · obtain ⟨W, rfl, h1, h2, hq⟩ := h
    refine ⟨_, pss_one (ps_if (pt_not (pt_val (pe_cl G hr (by rfl) (t.g 0) (pa_cons (pv 0) (pa_cons pe_int (pa_cons (pe_cval (pe_glob (v := .ref (He.ga K "Network")) (by rfl) t.net rfl)) pa_nil)))))) (pss_one ps_never) pss_nil), ?_⟩
    refine ⟨_, rfl, _, _, _, _, rfl, t.cread, cv, _, _, _, rfl, ?_⟩
    have e1 : decide ((1 : Int) ≤ W) = true := decide_eq_true (by omega)
    have e2 : decide ((W : Int) ≤ 40) = true := decide_eq_true (by omega)
    rw [e1, e2]
    exact ⟨true, rfl, hq⟩
end
end Nw
end
section
/-! The plain functions. -/
namespace Nw
/-- the item at i -/
def gi (xs : List Int) (i : Nat) : Int := xs.getD i 0
/-- a step changes -/
def swp (xs : List Int) (k : Nat) : Bool := decide (gi xs k < gi xs (k - 1))
/-- one step -/
def stp (xs : List Int) (k : Nat) : List Int := if swp xs k = true then (xs.set (k - 1) (gi xs k)).set k (gi xs (k - 1)) else xs
/-- all steps -/
def res (st : List Nat) (xs : List Int) : List Int := st.foldl stp xs
theorem stp_len (xs : List Int) (k : Nat) : (stp xs k).length = xs.length := by
  unfold stp
  by_cases h : swp xs k = true
  · rw [if_pos h]; simp
  · rw [if_neg h]
theorem res_len (st : List Nat) (xs : List Int) : (res st xs).length = xs.length := by
  unfold res
  induction st generalizing xs with
  | nil => rfl
  | cons k r ih => rw [List.foldl_cons, ih, stp_len]
theorem gi_at {xs : List Int} {i : Nat} (h : i < xs.length) : xs[i]? = some (gi xs i) := by
  unfold gi
  rw [List.getD_eq_getElem?_getD, List.getElem?_eq_getElem h]
  rfl
end Nw
namespace Nw
/-- n, n-1, .., 1 -/
def desc (n : Nat) : List Int := (List.range n).map fun (k : Nat) => (n : Int) - (k : Nat)
theorem desc_len (n : Nat) : (desc n).length = n := by unfold desc; simp
/-- the places of the steps that change -/
def exch : Nat → List Nat → List Int → List Nat
  | _, [], _ => []
  | i, k :: r, xs => if swp xs k = true then i :: exch (i + 1) r (stp xs k) else exch (i + 1) r (stp xs k)
theorem exch_snoc (k : Nat) : ∀ (i : Nat) (st : List Nat) (xs : List Int), exch i (st ++ [k]) xs = exch i st xs ++ (if swp (res st xs) k = true then [i + st.length] else [])
  | i, [], xs => by
    show (if swp xs k = true then [i] else []) = [] ++ (if swp xs k = true then [i + 0] else [])
    rfl
  | i, j :: r, xs => by
    have ih := exch_snoc k (i + 1) r (stp xs j)
    have e : res (j :: r) xs = res r (stp xs j) := rfl
    rw [List.cons_append]
    unfold exch
    rw [ih, e, List.length_cons, show i + 1 + r.length = i + (r.length + 1) by omega]
    by_cases h : swp xs j = true
    · rw [if_pos h, if_pos h, List.cons_append]
    · rw [if_neg h, if_neg h]
theorem res_snoc (st : List Nat) (k : Nat) (xs : List Int) : res (st ++ [k]) xs = stp (res st xs) k := by
  unfold res
  rw [List.foldl_append]
  rfl
end Nw
namespace Nw
/-- the steps that change -/
def red : List Nat → List Int → List Nat
  | [], _ => []
  | k :: r, xs => if swp xs k = true then k :: red r (stp xs k) else red r (stp xs k)
theorem exch_red : ∀ (pre st : List Nat) (xs : List Int), (exch pre.length st xs).map (fun j => (pre ++ st).getD j 0) = red st xs
  | _, [], _ => rfl
  | pre, k :: r, xs => by
    have ih := exch_red (pre ++ [k]) r (stp xs k)
    have e1 : (pre ++ [k]).length = pre.length + 1 := by simp
    have e2 : (pre ++ [k]) ++ r = pre ++ k :: r := by simp
    have e3 : (pre ++ k :: r).getD pre.length 0 = k := by
      rw [List.getD_eq_getElem?_getD, List.getElem?_append_right (Nat.le_refl _)]
      simp
    rw [e1, e2] at ih
    unfold exch red
    by_cases h : swp xs k = true
    · rw [if_pos h, if_pos h, List.map_cons, ih, e3]
    · rw [if_neg h, if_neg h, ih]
theorem exch_lt : ∀ (i : Nat) (st : List Nat) (xs : List Int), ∀ j ∈ exch i st xs, j < i + st.length
  | _, [], _, j, h => by cases h
  | i, k :: r, xs, j, h => by
    have ih := exch_lt (i + 1) r (stp xs k)
    unfold exch at h
    rw [List.length_cons]
    by_cases c : swp xs k = true
    · rw [if_pos c] at h
      rcases List.mem_cons.mp h with z | z
      · omega
      · have := ih j z
        omega
    · rw [if_neg c] at h
      have := ih j h
      omega
theorem exch_len : ∀ (i : Nat) (st : List Nat) (xs : List Int), (exch i st xs).length ≤ st.length
  | _, [], _ => Nat.le_refl _
  | i, k :: r, xs => by
    have ih := exch_len (i + 1) r (stp xs k)
    unfold exch
    by_cases c : swp xs k = true
    · rw [if_pos c]
      exact Nat.succ_le_succ ih
    · rw [if_neg c]
      exact Nat.le_succ_of_le ih
theorem red_mem : ∀ (st : List Nat) (xs : List Int), ∀ k ∈ red st xs, k ∈ st
  | [], _, k, h => by cases h
  | j :: r, xs, k, h => by
    have ih := red_mem r (stp xs j)
    unfold red at h
    by_cases c : swp xs j = true
    · rw [if_pos c] at h
      rcases List.mem_cons.mp h with z | z
      · rw [z]; exact List.mem_cons_self
      · exact List.mem_cons_of_mem _ (ih k z)
    · rw [if_neg c] at h
      exact List.mem_cons_of_mem _ (ih k h)
theorem red_len : ∀ (st : List Nat) (xs : List Int), (red st xs).length ≤ st.length
  | [], _ => Nat.le_refl _
  | j :: r, xs => by
    have ih := red_len r (stp xs j)
    unfold red
    by_cases c : swp xs j = true
    · rw [if_pos c]
      exact Nat.succ_le_succ ih
    · rw [if_neg c]
      exact Nat.le_succ_of_le ih
/-- how many of the first p are at most b -/
def cnt (xs : List Int) (b : Int) (p : Nat) : Nat := ((xs.take p).filter fun x => decide (x ≤ b)).length
/-- in order -/
def asc (xs : List Int) : Bool := (xs.zip (xs.drop 1)).all fun p => decide (p.1 ≤ p.2)
/-- one's counts are nowhere smaller -/
def noGap (one two : List Int) : Prop := ∀ b p : Nat, 1 ≤ b → b < one.length → 1 ≤ p → p < one.length → ¬ cnt one (b : Nat) p < cnt two (b : Nat) p
end Nw
end
section
/-! More plain functions. -/
namespace Nw
/-- 1, 2, .., n -/
def up (n : Nat) : List Int := (List.range n).map fun (k : Nat) => 1 + (k : Int)
theorem up_len (n : Nat) : (up n).length = n := by unfold up; simp
/-- the greater one to the left -/
def bst (xs : List Int) (k : Nat) : List Int := if gi xs (k - 1) < gi xs k then (xs.set (k - 1) (gi xs k)).set k (gi xs (k - 1)) else xs
theorem bst_len (xs : List Int) (k : Nat) : (bst xs k).length = xs.length := by
  unfold bst
  by_cases h : gi xs (k - 1) < gi xs k
  · rw [if_pos h]; simp
  · rw [if_neg h]
def bres (st : List Nat) (xs : List Int) : List Int := st.foldl bst xs
theorem bres_len (st : List Nat) (xs : List Int) : (bres st xs).length = xs.length := by
  unfold bres
  induction st generalizing xs with
  | nil => rfl
  | cons k r ih => rw [List.foldl_cons, ih, bst_len]
/-- the hardest arrangement -/
def har (W : Nat) (st : List Nat) : List Int := bres st.reverse (up W)
theorem har_len (W : Nat) (st : List Nat) : (har W st).length = W := by unfold har; rw [bres_len, up_len]
/-- the places (from 1) of what is at most c -/
def plc (xs : List Int) (c : Int) : List Nat := ((List.range xs.length).filter fun i => decide (gi xs i ≤ c)).map (· + 1)
def lims (W : Nat) (st : List Nat) : List (List Nat) := (List.range (W - 1)).map fun (i : Nat) => plc (har W st) (1 + (i : Int))
end Nw
end
section
/-! Promises: a step, a run. -/
namespace Nw
open PySem PySem.Spec PyProof.Rows L2 ClX
/-- all but l stays -/
def Mut (l : Addr) (H H' : Hp) : Prop := ∀ a o, a ≠ l → H a = some o → H' a = some o
theorem iat {xs : List Int} {i : Nat} (h : i < xs.length) : (iV xs)[i]? = some (V.int (gi xs i)) := by
  rw [List.getElem?_map, gi_at h]
  rfl
theorem iset (xs : List Int) (i : Nat) (v : Int) : (iV xs).set i (V.int v) = iV (xs.set i v) := by
  rw [← List.map_set]
theorem iV_len (xs : List Int) : (iV xs).length = xs.length := List.length_map _
theorem ixn {n j : Nat} (h : j < n) : ixN n (j : Int) = some j := by
  unfold ixN
  rw [if_pos (by omega), if_pos (by omega)]
  simp
theorem same_mut {l : Addr} {H H1 H2 : Hp} (s : Same H H1) (n : H l = none) (m : Mut l H1 H2) : Same H H2 := fun a o h => m a o (ne_of_none h n) (s a o h)
theorem same_new {p : Addr} {o : HO} {H : Hp} (n : H p = none) : Same H (upd H p o) := fun a _ h => (upd_ne (ne_of_none h n)).trans h
theorem nat_ {st : List Nat} {i : Nat} (h : i < st.length) : (nV st)[i]? = some (V.int (st[i] : Nat)) := by
  rw [List.getElem?_map, List.getElem?_eq_getElem h]
  rfl
section
variable {P : Program} {w : World} {K : PySem.W.Frag} {mg : Str → Option Value} {base : Heap}
/-- step_on -/
def spStep : Sp := fun vs H Q _ => ∃ (l : Addr) (xs : List Int) (k : Nat), vs = [.ref l, .int (k : Int)] ∧ H l = some (.lst (iV xs)) ∧ 1 ≤ k ∧ k < xs.length ∧ ∀ H', Mut l H H' → H' l = some (.lst (iV (stp xs k))) → Q (.bl (swp xs k)) H'
theorem ok_step_on (t : Tx K mg base) : Okd P w K mg base 1 d_step_on ["values", "step"] spStep := by
  have S : FnScope ["values", "step", "left", "right"] ["values", "step"] d_step_on.scope := ⟨rfl, rfl, rfl, by decide +kernel, rfl, by decide +kernel, by decide +kernel⟩
  refine okd_of t 12 rfl S rfl rfl (fun _ _ _ _ _ _ us hl => match us, hl with | [_, _], _ => rfl) (fun vs H Q E h => ?_) fun cdv A outer s H vs Q E hr h => ?_
  · obtain ⟨_, _, _, rfl, _⟩ := h
    rfl
  · obtain ⟨l, xs, k, rfl, hl, h1, h2, hq⟩ := h
    refine ⟨_, pss_cons (ps_par (i := 2) (j := 3) (by rfl) S.nd rfl rfl (by decide) rfl rfl (pa_cons (pe_ix ix_list (pv 0) (pe_op op_sub (pv 1) pe_int) (fun _ _ => rfl)) (pa_cons (pe_ix ix_list (pv 0) (pv 1) (fun _ _ => rfl)) pa_nil)) (by rfl))
      (pss_cons (ps_if (pt_cmpR op_le (pv 2) (pv 3) (nomark _)) (pss_one (ps_ret pe_bl)) pss_nil)
      (pss_cons (ps_asg (pe_tup (pa_cons (pv 3) (pa_cons (pv 2) pa_nil))) (pg_tup (by rfl) (pgs_cons (pg_sub (pv 0) (pe_op op_sub (pv 1) pe_int) set_list) (pgs_cons (pg_sub (pv 0) (pv 1) set_list) pgs_nil))))
      (pss_one (ps_ret pe_bl)))), ?_⟩
    have e1 : (k : Int) - 1 = ((k - 1 : Nat) : Int) := by omega
    refine ⟨_, rfl, _, rfl, _, _, rfl, rfl, l, _, _, _, rfl, rfl, SqL.of hl, (by rw [e1]; exact atI_nat (iat (by omega))), ?_⟩
    refine ⟨_, rfl, _, rfl, l, _, _, _, rfl, rfl, SqL.of hl, atI_nat (iat h2), ?_⟩
    refine ⟨_, _, rfl, ?_⟩
    refine ⟨_, rfl, _, rfl, _, _, rfl, rfl, _, rfl, ?_⟩
    refine ite2 (fun c => ?_) (fun c => ?_)
    · have c : swp xs k = false := by
        unfold swp
        have := of_decide_eq_true c
        exact decide_eq_false (by omega)
      refine ?_
      rw [c] at hq
      unfold stp at hq
      rw [c, if_neg Bool.false_ne_true] at hq
      exact hq H (fun _ _ _ h => h) hl
    · have c : swp xs k = true := by
        unfold swp
        have c : ¬ (gi xs (k - 1) ≤ gi xs k) := fun z => c (decide_eq_true z)
        exact decide_eq_true (by omega)
      rw [c] at hq
      unfold stp at hq
      rw [c, if_pos rfl] at hq
      refine ⟨_, rfl, _, rfl, (by show 2 ≤ sizeLine; decide), fun p hp => ?_⟩
      have hlp : l ≠ p := ne_of_none hl hp
      refine ⟨p, _, rfl, SqT.of upd_same, rfl, ?_⟩
      refine ⟨_, _, rfl, _, rfl, _, rfl, _, _, rfl, rfl, l, _, _, (k - 1 : Nat), rfl, rfl, (upd_ne hlp).trans hl, (by rw [e1, iV_len]; exact ixn (by omega)), ?_⟩
      refine ⟨_, _, rfl, _, rfl, _, rfl, l, _, _, k, rfl, rfl, upd_same, (by rw [List.length_set, iV_len]; exact ixn h2), ?_⟩
      refine ⟨rfl, ?_⟩
      rw [iset, iset]
      refine hq _ (fun a o ha hh => ?_) upd_same
      exact (upd_ne ha).trans ((upd_ne ha).trans ((upd_ne (ne_of_none hh hp)).trans hh))
/-- result_of -/
def spRes : Sp := fun vs H Q _ => ∃ (t l : Addr) (st : List Nat) (xs : List Int), vs = [.ref t, .ref l] ∧ H t = some (.tup (nV st)) ∧ H l = some (.lst (iV xs)) ∧ (∀ k ∈ st, 1 ≤ k ∧ k < xs.length) ∧
  ∀ H' p, Same H H' → H' p = some (.lst (iV (res st xs))) → Q (.ref p) H'
theorem ok_result_of (t : Tx K mg base) : Okd P w K mg base 2 d_result_of ["steps", "values"] spRes := by
  have S : FnScope ["steps", "values", "result", "step"] ["steps", "values"] d_result_of.scope := ⟨rfl, rfl, rfl, by decide +kernel, rfl, by decide +kernel, by decide +kernel⟩
  have G : Okd P w K mg base 1 d_step_on ["values", "step"] spStep := ok_step_on t
  refine okd_of t 13 rfl S rfl rfl (fun _ _ _ _ _ _ us hl => match us, hl with | [_, _], _ => rfl) (fun vs H Q E h => ?_) fun cdv A outer s H vs Q E hr h => ?_
  · obtain ⟨_, _, _, _, rfl, _⟩ := h
    rfl
  · obtain ⟨a, l, st, xs, rfl, ha, hl, hk, hq⟩ := h
    refine ⟨_, pss_cons (ps_set (i := 2) S.nd rfl (Or.inl rfl) (pe_callTy call_list_of (by rfl) t.list (by decide +kernel) (pa_cons (pv 1) pa_nil)))
      (pss_cons (ps_for PassesOwn.leaving rfl (pi_tup (pv 0)) (pg_name (i := 3) S.nd rfl (Or.inl rfl)) (pss_one (ps_expr (pe_cl G hr (by rfl) (t.g 7) (pa_cons (pv 2) (pa_cons (pv 3) pa_nil))))))
      (pss_one (ps_ret (pv 2)))), ?_⟩
    refine ⟨_, rfl, l, _, rfl, .inl (SqL.of hl), fun p hp => ?_⟩
    refine ⟨_, rfl, a, rfl, ⟨_, SqT.of ((upd_ne (ne_of_none ha hp)).trans ha)⟩, ?_⟩
    refine for_tup (xs := nV st) (fun i σ H' => (∃ v, σ = [some (.ref a), some (.ref l), some (.ref p), v]) ∧ Same H H' ∧ H' p = some (.lst (iV (res (st.take i) xs)))) ⟨⟨_, rfl⟩, same_new hp, upd_same⟩
      (fun i σ H' _ ⟨_, b, _⟩ => SqT.of (b _ _ ha)) (fun i x σ H' hx ⟨⟨v, es⟩, b, c⟩ => ?_) (fun σ H' ⟨⟨v, es⟩, b, c⟩ => ?_)
    · subst es
      have hi : i < st.length := by
        have := (List.getElem?_eq_some_iff.mp hx).1
        simpa using this
      rw [nat_ hi] at hx
      obtain rfl := (Option.some.inj hx).symm
      have hz := hk _ (List.getElem_mem hi)
      refine ⟨_, rfl, _, rfl, p, _, st[i], rfl, c, hz.1, (by rw [res_len]; exact hz.2), fun H2 m1 m2 => ?_⟩
      refine ⟨⟨_, rfl⟩, same_mut b hp m1, ?_⟩
      rw [m2, List.take_succ_eq_append_getElem hi]
      unfold res
      rw [List.foldl_append]
      rfl
    · subst es
      refine ⟨_, rfl, hq H' p b ?_⟩
      rw [c, List.length_map, List.take_length]
end
end Nw
end
section
/-! enumerate over a tuple; over a list with a start. -/
namespace Nw
open PySem PySem.Spec PyProof.Rows L2 ClX
open Sem (wp)
set_option maxHeartbeats 1000000 in
theorem meets_enu1 {v : Value} {o : Obj} {H : Heap → Prop} (B : Begins v o H) :
    Meets (Builtin.«enumerate.__new__» ⟨[.type "enumerate", v], []⟩) (fun _ R s => H s.heap ∧
      R (.ok (.ret (.ref (s.heap.push o).objs.size))) { s with heap := (s.heap.push o).push { cls := .type "enumerate", data := .fields #[.none, .bool false, .ref s.heap.objs.size, rawInt 0, .none, .none] } }) :=
  .of_wp fun prog w A R s h => by
    obtain ⟨hp, g, d, tk, os⟩ := s; obtain ⟨h1, h⟩ := h
    have hsub := sub_enumerate
    have q1 : ∀ {A' : Around} {E : Value → Shared → Prop} {Q : Value → Shared → Prop}, Q (.ref hp.objs.size) ⟨hp.push o, g, d, tk, os⟩ → wpAny (model prog w) A' (pyIter v) Q E ⟨hp, g, d, tk, os⟩ :=
      fun q => B.iter prog w _ _ ⟨hp, g, d, tk, os⟩ _ h1 q
    wp_walk using q1
    refine wpAny_stack_any fun st => wpAny_pure ?_
    split
    · rename_i c _ _ _ _ _
      cases (c == Value.type "enumerate")
      · wp_walk using q1
        exact ⟨_, rfl, h⟩
      · wp_walk using q1
        exact ⟨_, rfl, h⟩
    · wp_walk using q1
      exact ⟨_, rfl, h⟩
section
variable {prog : Program} {w : World} {A : Around} {E : Value → Shared → Prop} {s : Shared}
theorem enu1_begins {v : Value} {o : Obj} {H : Heap → Prop} {Q : Value → Shared → Prop} (B : Begins v o H) (h1 : H s.heap)
    (h : ∀ h', IsEnum h' (s.heap.objs.size + 1) s.heap.objs.size 0 .none → h'.get? s.heap.objs.size = some o → h'.objs.size = s.heap.objs.size + 2 →
      (∀ b o, s.heap.get? b = some o → h'.get? b = some o) → Q (.ref (s.heap.objs.size + 1)) { s with heap := h' }) :
    wpAny (model prog w) A (call (.type "enumerate") [v]) Q E s := by
  refine callType_new F.called_enumerate (by decide) (F.typeCall_enumerate_1 _) (F.newCall_enumerate_1 _) (fun obj => F.args_object_init_2 obj _) F.entry_enumerate_new
    (meets_enu1 B) ⟨h1, ?_⟩
  have hz : (s.heap.push o).objs.size = s.heap.objs.size + 1 := Heap.size_push ..
  show _ ∧ _
  rw [hz]
  have he : IsEnum ((s.heap.push o).push { cls := .type "enumerate", data := .fields #[.none, .bool false, .ref s.heap.objs.size, rawInt 0, .none, .none] }) (s.heap.objs.size + 1) s.heap.objs.size 0 .none := by
    have := Heap.get?_push_size (s.heap.push o) (o := { cls := .type "enumerate", data := .fields #[.none, .bool false, .ref s.heap.objs.size, rawInt 0, .none, .none] }) rfl
    rw [hz] at this; exact this
  refine ⟨⟨_, he, rfl⟩, h _ he (Heap.get?_push_of_some _ (Heap.get?_push_size _ B.free)) (by rw [Heap.size_push, hz]) fun b o x => Heap.get?_push_of_some _ (Heap.get?_push_of_some _ x)⟩
end
/-- a thing gone through: a list or a tuple -/
structure Src (P : Program) (w : World) (K : PySem.W.Frag) (a : Addr) (o : Obj) (Sq : Hp → List V → Prop) (IsS : Heap → Array Value → Prop) (IsI : Addr → Nat → Heap → Prop) : Prop where
  get : ∀ (X : Cx), X.prog = P → X.w = w → X.K = K → ∀ (pins : List (Addr × Obj)) (σ : L2.St) (H : Hp) (s : Shared) (xs : List V), Inv X pins σ H s → Sq H xs → ∃ its : List Value, Vals xs its ∧ IsS s.heap its.toArray
  inj : ∀ (X : Cx), X.prog = P → X.w = w → X.K = K → ∀ (pins : List (Addr × Obj)) (σ : L2.St) (H : Hp) (s : Shared) (xs ys : List V), Inv X pins σ H s → Sq H xs → Sq H ys → xs = ys
  apart : ∀ h e it c old items, IsEnum h e it c old → IsS h items → e ≠ a
  apartI : ∀ h it i items, IsI it i h → IsS h items → a ≠ it
  draws : ∀ A it items, A.handled = none → a ≠ it → Draws P w A it [it, a] items.size (fun i v => items[i]? = some v) (fun i h => IsI it i h ∧ IsS h items)
  iobj : ∀ it i h, IsI it i h → ∃ o, h.get? it = some o ∧ ∀ v, o.data ≠ .cell v
  iat : ∀ it i h h', IsI it i h → (∀ o, h.get? it = some o → h'.get? it = some o) → IsI it i h'
  begins : Begins (.ref a) o fun h => ∃ items, IsS h items
  begun : ∀ h it, h.get? it = some o → IsI it 0 h
theorem src_list (P : Program) (w : World) (K : PySem.W.Frag) (a : Addr) : Src P w K a { cls := .type "list_iterator", data := .fields #[.ref a, .int 0 0] } (fun H xs => SqL K H a xs) (fun h items => h.IsList a items) (fun it i h => h.IsListIter it a i) where
  get := fun X _ _ hK pins σ H s xs I h => by
    subst hK
    obtain ⟨its, rv, p, _⟩ := I.list h
    exact ⟨its, rv, p.isList⟩
  inj := fun X _ _ hK pins σ H s xs ys I h h' => by
    subst hK
    exact I.list_inj h h'
  apart := fun h e it c old items he ⟨o, ho, hc, _⟩ z => by
    subst z
    unfold IsEnum at he
    rw [he] at ho
    cases ho
    injection hc with q
    exact absurd q (by decide)
  apartI := fun h it i items ⟨o, ho, hc, _⟩ ⟨o', ho', hc', _⟩ z => by
    subst z
    rw [ho] at ho'
    cases ho'
    rw [hc] at hc'
    injection hc' with q
    exact absurd q (by decide)
  draws := fun A it items hh hne => Draws.list hh it a hne items
  iobj := fun it i h ⟨o, ho, _, hd⟩ => ⟨o, ho, fun v q => by rw [hd] at q; cases q⟩
  iat := fun it i h h' st k => let ⟨o, ho, r⟩ := st; ⟨o, k o ho, r⟩
  begins := ⟨fun prog w A E s Q ⟨items, hl⟩ h => wpAny_pyIter_list hl h, fun h h' ⟨items, x⟩ hk => ⟨items, x.at fun o e => hk a o e⟩, rfl⟩
  begun := fun h it e => ⟨_, e, rfl, rfl⟩
theorem src_tup (P : Program) (w : World) (K : PySem.W.Frag) (a : Addr) : Src P w K a { cls := .type "tuple_iterator", data := .fields #[.ref a, .int 0 0] } (fun H xs => SqT K H a xs) (fun h items => h.IsTuple a items) (fun it i h => h.IsTupleIter it a i) where
  get := fun X _ _ hK pins σ H s xs I h => by
    subst hK
    obtain ⟨its, rv, p, _⟩ := I.tuple h
    exact ⟨its, rv, p⟩
  inj := fun X _ _ hK pins σ H s xs ys I h h' => by
    subst hK
    exact I.tuple_inj h h'
  apart := fun h e it c old items he ⟨o, ho, hc, _⟩ z => by
    subst z
    unfold IsEnum at he
    rw [he] at ho
    cases ho
    injection hc with q
    exact absurd q (by decide)
  apartI := fun h it i items ⟨o, ho, hc, _⟩ ⟨o', ho', hc', _⟩ z => by
    subst z
    rw [ho] at ho'
    cases ho'
    rw [hc] at hc'
    injection hc' with q
    exact absurd q (by decide)
  draws := fun A it items hh hne => Draws.tuple hh it a hne items
  iobj := fun it i h ⟨o, ho, _, hd⟩ => ⟨o, ho, fun v q => by rw [hd] at q; cases q⟩
  iat := fun it i h h' st k => let ⟨o, ho, r⟩ := st; ⟨o, k o ho, r⟩
  begins := ⟨fun prog w A E s Q ⟨items, hl⟩ h => wpAny_pyIter_tuple hl h, fun h h' ⟨items, x⟩ hk => ⟨items, x.at fun o e => hk a o e⟩, rfl⟩
  begun := fun h it e => ⟨_, e, rfl, rfl⟩
/-- the items as they stand at each turn, each in a new pair with its number from c -/
def ItS (c : Int) (Sq : Hp → List V → Prop) : It :=
  ⟨fun i H => ∃ (xs : List V) (x : V), Sq H xs ∧ xs[i]? = some x, fun i H v H' => ∃ T x, v = .ref T ∧ H T = none ∧ H' = upd H T (.tup [.int (c + (i : Nat)), x]) ∧ ∀ xs, Sq H xs → xs[i]? = some x, fun i H => ∃ xs : List V, Sq H xs ∧ i = xs.length⟩
theorem turn_enumS {P : Program} {w : World} {K : PySem.W.Frag} {a : Addr} {o : Obj} {Sq : Hp → List V → Prop} {IsS : Heap → Array Value → Prop} {IsI : Addr → Nat → Heap → Prop} (S : Src P w K a o Sq IsS IsI) {elts : List Expr} {kk : Nat} {tpos : Pos} (c : Int) (e it : Addr) :
    Turn P w K (.Tuple elts kk tpos) (ItS c Sq) [e, it] e (fun i h => (∃ old, IsEnum h e it (c + ((i : Nat) : Int)) old) ∧ IsI it i h ∧ e ≠ it) where
  mem := by simp
  obj := fun i h st b hb => by
    obtain ⟨⟨old, he⟩, hi, _⟩ := st
    have e' : b = e ∨ b = it := by simpa using hb
    rcases e' with z | z
    · rw [z]; exact ⟨_, he, fun v q => nomatch q⟩
    · rw [z]; exact S.iobj it i h hi
  keep := fun i h h' st k => let ⟨⟨old, he⟩, hi, hne⟩ := st; ⟨⟨old, k e (by simp) _ he⟩, S.iat it i h h' hi fun o q => k it (by simp) o q, hne⟩
  item := by
    intro X hP hw hK hc i pins s σ H E I hf st hg
    obtain ⟨⟨old, he⟩, hit, hne⟩ := st
    obtain ⟨xs, x, hq, hx⟩ := hg
    obtain ⟨its, rv, p⟩ := S.get X hP hw hK pins σ H s xs I hq
    obtain ⟨u, hu, ru⟩ := rv.get hx
    have hel : e < s.heap.objs.size := Heap.lt_size he
    have hil : it < s.heap.objs.size := by obtain ⟨_, q, _⟩ := S.iobj it i _ hit; exact Heap.lt_size q
    have hea := S.apart _ _ _ _ _ _ he p
    have hlt : i < its.toArray.size := by
      have := (List.getElem?_eq_some_iff.mp hu).1
      simpa using this
    have D := S.draws X.A.in1 it its.toArray (I.ok.hd hc) (S.apartI _ _ _ _ hit p)
    refine wpAny_pyNext_enum_itemC D he ⟨hit, p⟩ hlt hne (by simp; exact ⟨hne, hea⟩) fun x' h' tk hx' ho hit' hT hsz hk => ?_
    obtain rfl : x' = u := by
      have : its.toArray[i]? = some u := by simpa using hu
      rw [this] at hx'
      exact (Option.some.inj hx').symm
    refine ⟨_, rfl, wpAny_letOwnedTupleGo_enum (s := { s with heap := h', toks := tk + 1 }) ho fun h'' he' sb => ?_⟩
    have hT2 : h''.get? s.heap.objs.size = some { cls := .type "tuple", data := .seq #[.int (c + i) tk, x'] } := (sb.2 _ (Nat.ne_of_gt hel)).trans hT
    have new : ObjOk X.prog X.w (upd H s.heap.objs.size (.tup [.int (c + (i : Nat)), x])) h'' s.heap.objs.size (.tup [.int (c + (i : Nat)), x]) :=
      ⟨by show 2 ≤ sizeLine; decide, [.int (c + i) tk, x'], .cons ⟨_, rfl⟩ (.cons ru .nil), ⟨_, hT2, rfl, _, rfl⟩⟩
    have I1 : Inv X pins σ (upd H s.heap.objs.size (.tup [.int (c + (i : Nat)), x])) { s with heap := h'', toks := tk + 1 } :=
      I.turnedNew (ch := [e, it]) (fun b ob hb q => (sb.2 b (fun z => hb (by simp [z]))).trans (hk b ob (fun z => hb (by simp [z])) (fun z => hb (by simp [z])) q)) hf (Nat.le_refl _) new
    refine ⟨.ref s.heap.objs.size, _, I1, rfl, ⟨_, x, rfl, I.hok.fresh (Nat.le_refl _), rfl, fun ys hy => by rw [S.inj X hP hw hK pins σ H s ys xs I hy hq]; exact hx⟩, ⟨⟨x', ?_⟩, S.iat it (i + 1) _ _ hit'.1 fun o q => (sb.2 it (Ne.symm hne)).trans q, hne⟩, fun b hb => ?_⟩
    · have e1 : c + ((i + 1 : Nat) : Int) = c + (i : Int) + 1 := by omega
      rw [e1]; exact he'
    · have hb' : b < s.heap.objs.size := by
        have e' : b = e ∨ b = it := by simpa using hb
        rcases e' with z | z
        · rw [z]; exact hel
        · rw [z]; exact hil
      rw [upd_ne (Nat.ne_of_lt hb')]
      exact (hf b hb).1
  done := by
    intro X hP hw hK hc i pins s σ H E I hf st hg
    obtain ⟨⟨old, he⟩, hit, hne⟩ := st
    obtain ⟨xs, hq, hx⟩ := hg
    obtain ⟨its, rv, p⟩ := S.get X hP hw hK pins σ H s xs I hq
    obtain ⟨f0, f1, f2, f3, f4, f5⟩ := hf it (by simp)
    have hl : i = its.toArray.size := by
      have := rv.length
      simp
      omega
    have D := S.draws X.A.in1 it its.toArray (I.ok.hd hc) (S.apartI _ _ _ _ hit p)
    subst hP hw
    exact wpAny_pyNext_enum_endD D he (by rw [← hl]; exact ⟨hit, p⟩) fun h' eb => ⟨rfl, I.turned (t' := s.toks) (fun b o hb q => eb b o hb q) f0 f1 f3 f4 f5⟩
  self := fun A i s Q E st h => let ⟨⟨_, he⟩, _⟩ := st; wpAny_pyIter_enum he h
/-- enumerate(t), enumerate(xs, c) -/
def iEnT (K : PySem.W.Frag) (ta : TA) : TI := fun σ H R => ta σ H fun vs H1 => ∃ a xs, vs = [.ref a] ∧ SqT K H1 a xs ∧ R (ItS 0 fun H xs => SqT K H a xs) H1
def iEnK (K : PySem.W.Frag) (ta : TA) : TI := fun σ H R => ta σ H fun vs H1 => ∃ a xs c, vs = [.ref a, .int c] ∧ -(2 ^ 63) ≤ c ∧ c < 2 ^ 63 ∧ SqL K H1 a xs ∧ R (ItS c fun H xs => SqL K H a xs) H1
theorem pi_enumT {X : Cx} {e : Expr} {ta : TA} {p pos tpos : Pos} {elts : List Expr} {kk : Nat} (hg : Gl X "enumerate") (hm : X.mg "enumerate" = none) (ha : PA X [e] ta) (hs : starEach [e] X.env = [(false, eval e X.env)] := by rfl) :
    PI X (.Tuple elts kk tpos) (.Call (.Name "enumerate" p) [e] [] pos) (iEnT X.K ta) := by
  refine ⟨fun pins s σ H R I h => ?_⟩
  refine Call_ (ld_blt I hg hm boot_enumerate (PyProof.Rows.callWith_type1 (thn (ha.run pos pins s σ H _ I h) fun us s1 ⟨vs, H1, I1, r1, q1⟩ => ?_) hs rfl))
  obtain ⟨a, xs, ex, hq, q⟩ := q1
  subst ex
  cases r1 with
  | cons r rr =>
    cases rr
    cases r
    have S := src_tup X.prog X.w X.K a
    obtain ⟨its, rv, p'⟩ := S.get X rfl rfl rfl pins σ H1 s1 xs I1 hq
    refine enu1_begins S.begins ⟨_, p'⟩ fun h' he hit hsz hk => wpAny_pyIter_enum he ?_
    have I2 : Inv X pins σ H1 { s1 with heap := h' } := I1.kept (t' := s1.toks) hk
    refine ⟨s1.heap.objs.size + 1, [s1.heap.objs.size + 1, s1.heap.objs.size], _, _, H1, rfl, I2, turn_enumS S 0 (s1.heap.objs.size + 1) s1.heap.objs.size, ⟨⟨.none, he⟩, S.begun _ _ hit, Nat.succ_ne_self _⟩, fun b hb => ?_, q⟩
    have e' : b = s1.heap.objs.size + 1 ∨ b = s1.heap.objs.size := by simpa using hb
    have hle : s1.heap.objs.size ≤ b := by
      rcases e' with z | z
      · rw [z]; exact Nat.le_add_right _ _
      · rw [z]; exact Nat.le_refl _
    exact I1.fpOk hle (I1.hok.fresh hle)
theorem pi_enumK {X : Cx} {e e2 : Expr} {ta : TA} {p pos tpos : Pos} {elts : List Expr} {kk : Nat} (hg : Gl X "enumerate") (hm : X.mg "enumerate" = none) (ha : PA X [e, e2] ta)
    (hs : starEach [e, e2] X.env = (false, eval e X.env) :: starEach [e2] X.env := by rfl) (hpl : (backTo pos (starEach [e2] X.env)).any (·.1) = false := by rfl) :
    PI X (.Tuple elts kk tpos) (.Call (.Name "enumerate" p) [e, e2] [] pos) (iEnK X.K ta) := by
  refine ⟨fun pins s σ H R I h => ?_⟩
  refine Call_ (ld_blt I hg hm boot_enumerate (PyProof.Rows.callWith_type1 (thn (ha.run pos pins s σ H _ I h) fun us s1 ⟨vs, H1, I1, r1, q1⟩ => ?_) hs hpl))
  obtain ⟨a, xs, c, ex, c1, c2, hq, q⟩ := q1
  subst ex
  cases r1 with
  | cons r rr =>
    cases rr with
    | cons r' rr =>
    cases rr
    cases r
    obtain ⟨tc, ec⟩ := r'
    subst ec
    have S := src_list X.prog X.w X.K a
    obtain ⟨its, rv, p'⟩ := S.get X rfl rfl rfl pins σ H1 s1 xs I1 hq
    refine enum_begins S.begins ⟨_, p'⟩ c1 c2 fun h' he hit hsz hk => wpAny_pyIter_enum he ?_
    have I2 : Inv X pins σ H1 { s1 with heap := h' } := I1.kept (t' := s1.toks) hk
    refine ⟨s1.heap.objs.size + 1, [s1.heap.objs.size + 1, s1.heap.objs.size], _, _, H1, rfl, I2, turn_enumS S c (s1.heap.objs.size + 1) s1.heap.objs.size, ⟨⟨.none, by simpa using he⟩, S.begun _ _ hit, Nat.succ_ne_self _⟩, fun b hb => ?_, q⟩
    have e' : b = s1.heap.objs.size + 1 ∨ b = s1.heap.objs.size := by simpa using hb
    have hle : s1.heap.objs.size ≤ b := by
      rcases e' with z | z
      · rw [z]; exact Nat.le_add_right _ _
      · rw [z]; exact Nat.le_refl _
    exact I1.fpOk hle (I1.hok.fresh hle)
/-- a loop over it -/
theorem for_enum {c : Int} {Sq : Hp → List V → Prop} {xs : List V} {g : TG} {tb : TS} {D : Ends} {σ : L2.St} {H : Hp} (Pv : Nat → L2.St → Hp → Prop) (h0 : Pv 0 σ H) (hq : ∀ i σ H, Pv i σ H → Sq H xs)
    (hs : ∀ (i : Nat) (x : V) (T : Addr) (σ : L2.St) (H : Hp), xs[i]? = some x → Pv i σ H → H T = none → g (.ref T) σ (upd H T (.tup [.int (c + (i : Nat)), x])) fun σ2 H2 => tb { D with nx := Pv (i + 1), ct := Pv (i + 1), bk := D.nx } σ2 H2) (hd : ∀ σ H, Pv xs.length σ H → D.nx σ H) :
    ∃ W : Nat → Nat → L2.St → Hp → Prop, (∃ m, W 0 m σ H) ∧ ∀ i m σ H, W i m σ H →
      ((ItS c Sq).stop i H ∧ D.nx σ H) ∨ ((ItS c Sq).go i H ∧ ∃ N : L2.St → Hp → Prop, (∀ σ' H', N σ' H' → ∃ m', m' < m ∧ W (i + 1) m' σ' H') ∧ ∀ v H', (ItS c Sq).yld i H v H' → g v σ H' fun σ2 H2 => tb { D with nx := N, ct := N, bk := D.nx } σ2 H2) := by
  refine ⟨fun i m σ H => m = xs.length - i ∧ i ≤ xs.length ∧ Pv i σ H, ⟨xs.length, rfl, Nat.zero_le _, h0⟩, ?_⟩
  rintro i m σ H ⟨rfl, hi, p⟩
  have q := hq i σ H p
  by_cases hlt : i < xs.length
  · have hx : xs[i]? = some xs[i] := List.getElem?_eq_getElem hlt
    refine .inr ⟨⟨xs, _, q, hx⟩, Pv (i + 1), fun σ' H' p' => ⟨xs.length - (i + 1), by omega, rfl, hlt, p'⟩, fun v H' y => ?_⟩
    obtain ⟨T, x', rfl, hT, rfl, f1⟩ := y
    exact hs i x' T σ H (f1 xs q) p hT
  · have e : i = xs.length := by omega
    subst e
    exact .inl ⟨⟨xs, q, rfl⟩, hd σ H p⟩
/-- a list made of it -/
theorem lc_enum {c : Int} {Sq : Hp → List V → Prop} {xs : List V} {g : TG} {tt : TT} {te : TE} {vs : List Nat} {σ : L2.St} {H1 : Hp} {D : Addr} {Qd : Hp → Prop} (Pv : Nat → Hp → Prop) (h0 : Pv 0 (upd H1 D (.lst []))) (hl : ∀ i H, i ≤ xs.length → Pv i H → Sq H xs)
    (hs : ∀ i x T H, xs[i]? = some x → Pv i H → H T = none → g (.ref T) (wipe σ vs) (upd H T (.tup [.int (c + (i : Nat)), x])) fun σ2 H2 => wipe σ2 vs = wipe σ vs ∧ tt σ2 H2 fun b H3 =>
      if b = true then te σ2 H3 fun y H4 => ∃ acc, H4 D = some (.lst acc) ∧ acc.length < sizeLine ∧ Pv (i + 1) (upd H4 D (.lst (acc ++ [y]))) else Pv (i + 1) H3) (hd : ∀ H, Pv xs.length H → Qd H) :
    ∃ W : Nat → Nat → Hp → Prop, (∃ m, W 0 m (upd H1 D (.lst []))) ∧ ∀ i m H, W i m H →
      ((ItS c Sq).stop i H ∧ Qd H) ∨ ((ItS c Sq).go i H ∧ ∃ Nx : Hp → Prop, (∀ H', Nx H' → ∃ m', m' < m ∧ W (i + 1) m' H') ∧ ∀ x H', (ItS c Sq).yld i H x H' → g x (wipe σ vs) H' fun σ2 H2 => wipe σ2 vs = wipe σ vs ∧ tt σ2 H2 fun b H3 =>
        if b = true then te σ2 H3 fun y H4 => ∃ acc, H4 D = some (.lst acc) ∧ acc.length < sizeLine ∧ Nx (upd H4 D (.lst (acc ++ [y]))) else Nx H3) := by
  refine ⟨fun i m H => m = xs.length - i ∧ i ≤ xs.length ∧ Pv i H, ⟨xs.length, rfl, Nat.zero_le _, h0⟩, ?_⟩
  rintro i m H ⟨rfl, hi, p⟩
  have q := hl i H hi p
  by_cases hlt : i < xs.length
  · refine .inr ⟨⟨xs, _, q, List.getElem?_eq_getElem hlt⟩, Pv (i + 1), fun H' p' => ⟨xs.length - (i + 1), by omega, rfl, hlt, p'⟩, fun x H' y => ?_⟩
    obtain ⟨T, x', rfl, hT, rfl, f1⟩ := y
    exact hs i x' T H (f1 xs q) p hT
  · have e : i = xs.length := by omega
    subst e
    exact .inl ⟨⟨xs, q, rfl⟩, hd H p⟩
/-- a loop over the kit's enumerate of a list -/
theorem for_enumL {K : PySem.W.Frag} {a : Addr} {xs : List V} {g : TG} {tb : TS} {D : Ends} {σ : L2.St} {H : Hp} (Pv : Nat → L2.St → Hp → Prop) (h0 : Pv 0 σ H) (hq : ∀ i σ H, Pv i σ H → SqL K H a xs)
    (hs : ∀ (i : Nat) (x : V) (T : Addr) (σ : L2.St) (H : Hp), xs[i]? = some x → Pv i σ H → H T = none → g (.ref T) σ (upd H T (.tup [.int (i : Nat), x])) fun σ2 H2 => tb { D with nx := Pv (i + 1), ct := Pv (i + 1), bk := D.nx } σ2 H2) (hd : ∀ σ H, Pv xs.length σ H → D.nx σ H) :
    ∃ W : Nat → Nat → L2.St → Hp → Prop, (∃ m, W 0 m σ H) ∧ ∀ i m σ H, W i m σ H →
      ((Ite K a).stop i H ∧ D.nx σ H) ∨ ((Ite K a).go i H ∧ ∃ N : L2.St → Hp → Prop, (∀ σ' H', N σ' H' → ∃ m', m' < m ∧ W (i + 1) m' σ' H') ∧ ∀ v H', (Ite K a).yld i H v H' → g v σ H' fun σ2 H2 => tb { D with nx := N, ct := N, bk := D.nx } σ2 H2) := by
  refine ⟨fun i m σ H => m = xs.length - i ∧ i ≤ xs.length ∧ Pv i σ H, ⟨xs.length, rfl, Nat.zero_le _, h0⟩, ?_⟩
  rintro i m σ H ⟨rfl, hi, p⟩
  have q := hq i σ H p
  by_cases hlt : i < xs.length
  · have hx : xs[i]? = some xs[i] := List.getElem?_eq_getElem hlt
    refine .inr ⟨⟨xs, _, q, hx⟩, Pv (i + 1), fun σ' H' p' => ⟨xs.length - (i + 1), by omega, rfl, hlt, p'⟩, fun v H' y => ?_⟩
    obtain ⟨T, x', rfl, hT, rfl, f1⟩ := y
    exact hs i x' T σ H (f1 xs q) p hT
  · have e : i = xs.length := by omega
    subst e
    exact .inl ⟨⟨xs, q, Nat.le_refl _⟩, hd σ H p⟩
end Nw
end
section
/-! Promises: width, steps, check_integers, check_values, run, descending, profile. -/
namespace Nw
open PySem PySem.Spec PyProof.Rows L2 ClX
section
variable {P : Program} {w : World} {K : PySem.W.Frag} {mg : Str → Option Value} {base : Heap}
theorem ok_width (t : Tx K mg base) : Okd P w K mg base 1 d_Network_width ["self"] (getSp (He.ga K "Network") "own_width") := by
  refine okd_of t 6 rfl (N := ["self"]) ⟨rfl, rfl, rfl, by decide +kernel, rfl, by decide +kernel, by decide +kernel⟩ rfl rfl (fun _ _ _ _ _ _ us hl => match us, hl with | [_], _ => rfl) (fun vs H Q E h => ?_) fun cdv A outer s H vs Q E hr h => ?_
  · obtain ⟨_, _, _, _, rfl, _⟩ := h
    rfl
  · obtain ⟨a, dx, fs, v, rfl, ea, l, q⟩ := h
    exact ⟨_, pss_one (ps_ret (pe_fld (pv 0) rfl)), .ref a, rfl, a, _, dx, fs, v, rfl, ea, t.cl, t.nw, l, q⟩
theorem ok_steps (t : Tx K mg base) : Okd P w K mg base 1 d_Network_steps ["self"] (getSp (He.ga K "Network") "own_steps") := by
  refine okd_of t 7 rfl (N := ["self"]) ⟨rfl, rfl, rfl, by decide +kernel, rfl, by decide +kernel, by decide +kernel⟩ rfl rfl (fun _ _ _ _ _ _ us hl => match us, hl with | [_], _ => rfl) (fun vs H Q E h => ?_) fun cdv A outer s H vs Q E hr h => ?_
  · obtain ⟨_, _, _, _, rfl, _⟩ := h
    rfl
  · obtain ⟨a, dx, fs, v, rfl, ea, l, q⟩ := h
    exact ⟨_, pss_one (ps_ret (pe_fld (pv 0) rfl)), .ref a, rfl, a, _, dx, fs, v, rfl, ea, t.cl, t.ns_, l, q⟩
theorem pe_width {X : Cx} {e : Expr} {ta : TE} {pos : Pos} (t : Tx X.K X.mg X.base) (he : PE X e ta) (hr : Room 2 X.A) (hab : attributeBase e "width" X.env (eval e X.env) = eval e X.env := by rfl) :
    PE X (.Attribute e "width" pos) (tProp (He.ga X.K "Network") (getSp (He.ga X.K "Network") "own_width") [] E0 ta) := by
  obtain ⟨fd, F, G, b⟩ := (ok_width t : Okd X.prog X.w X.K X.mg X.base 1 _ _ _)
  exact pe_prop he t.cl (prop_of t.exs.1) G hr b .nil pass0 hab
theorem pe_steps {X : Cx} {e : Expr} {ta : TE} {pos : Pos} (t : Tx X.K X.mg X.base) (he : PE X e ta) (hr : Room 2 X.A) (hab : attributeBase e "steps" X.env (eval e X.env) = eval e X.env := by rfl) :
    PE X (.Attribute e "steps" pos) (tProp (He.ga X.K "Network") (getSp (He.ga X.K "Network") "own_steps") [] E0 ta) := by
  obtain ⟨fd, F, G, b⟩ := (ok_steps t : Okd X.prog X.w X.K X.mg X.base 1 _ _ _)
  exact pe_prop he t.cl (prop_of t.exs.2.1) G hr b .nil pass0 hab
theorem pe_stepsK {X : Cx} {e : Expr} {ta : TE} {pos : Pos} (t : Tx K mg base) (he : PE X e ta) (hr : Room 2 X.A) (hK : X.K = K := by rfl) (hm : X.mg = mg := by rfl) (hb : X.base = base := by rfl) (hab : attributeBase e "steps" X.env (eval e X.env) = eval e X.env := by rfl) :
    PE X (.Attribute e "steps" pos) (tProp (He.ga K "Network") (getSp (He.ga K "Network") "own_steps") [] E0 ta) := by
  subst hK hm hb
  exact pe_steps t he hr hab
theorem pe_ixT {X : Cx} {a b : Expr} {ta tb : TE} {pos : Pos} (ha : PE X a ta) (hb : PE X b tb) (hs : PlainIx b) (hK : X.K = K := by rfl) : PE X (.Subscript a b pos) (tOp (rIxT K) ta tb) := by
  subst hK
  exact pe_ix ix_tup ha hb hs
theorem pe_ixL {X : Cx} {a b : Expr} {ta tb : TE} {pos : Pos} (ha : PE X a ta) (hb : PE X b tb) (hs : PlainIx b) (hK : X.K = K := by rfl) : PE X (.Subscript a b pos) (tOp (rIxL K) ta tb) := by
  subst hK
  exact pe_ix ix_list ha hb hs
theorem pg_tupK {X : Cx} {es : List Expr} {k : Nat} {pos : Pos} {t : TGs} {n : Nat} (hc : X.calm = true) (h : PGs X es t) (hK : X.K = K := by rfl) (hn : (assignEach es X.env).length = n := by rfl) (hst : (assignEach es X.env).findIdx? (·.1) = none := by rfl) : PG X (.Tuple es k pos) (gTup K n t) := by
  subst hK
  exact pg_tup hc h hn hst
theorem net_w {H : Hp} {a : Addr} {W : Nat} {dx t : Addr} {Q : VK} {E : XK} (h : H a = some (.ins (He.ga K "Network") dx [("own_width", .int (W : Int)), ("own_steps", .ref t)])) (q : Q (.int W) H) :
    ∃ a' dx fs, V.ref a = .ref a' ∧ H a' = some (.ins (He.ga K "Network") dx fs) ∧ getSp (He.ga K "Network") "own_width" [.ref a'] H Q E := ⟨a, dx, _, rfl, h, a, dx, _, _, rfl, h, rfl, q⟩
theorem net_s {H : Hp} {a : Addr} {W : Nat} {dx t : Addr} {Q : VK} {E : XK} (h : H a = some (.ins (He.ga K "Network") dx [("own_width", .int (W : Int)), ("own_steps", .ref t)])) (q : Q (.ref t) H) :
    ∃ a' dx fs, V.ref a = .ref a' ∧ H a' = some (.ins (He.ga K "Network") dx fs) ∧ getSp (He.ga K "Network") "own_steps" [.ref a'] H Q E := ⟨a, dx, _, rfl, h, a, dx, _, _, rfl, h, rfl, q⟩
/-- check_integers -/
def spChkI : Sp := fun vs H Q _ => ∃ (l : Addr) (xs : List Int), vs = [.ref l] ∧ H l = some (.lst (iV xs)) ∧ ∀ H', Same H H' → Q .non H'
theorem ok_check_integers (t : Tx K mg base) : Okd P w K mg base 2 d_check_integers ["values"] spChkI := by
  have S : FnScope ["values", "index", "value"] ["values"] d_check_integers.scope := ⟨rfl, rfl, rfl, by decide +kernel, rfl, by decide +kernel, by decide +kernel⟩
  have G : Okd P w K mg base 1 d_is_any_integer ["value"] spAnyInt := ok_is_any_integer t
  refine okd_of t 10 rfl S rfl rfl (fun _ _ _ _ _ _ us hl => match us, hl with | [_], _ => rfl) (fun vs H Q E h => ?_) fun cdv A outer s H vs Q E hr h => ?_
  · obtain ⟨_, _, rfl, _⟩ := h
    rfl
  · obtain ⟨l, xs, rfl, hl, hq⟩ := h
    refine ⟨_, pss_one (ps_for PassesOwn.leaving rfl (pi_enum (by rfl) t.enumerate (pa_cons (pv 0) pa_nil)) (pg_tup (by rfl) (pgs_cons (pg_name (i := 1) S.nd rfl (Or.inl rfl)) (pgs_cons (pg_name (i := 2) S.nd rfl (Or.inl rfl)) pgs_nil)))
      (pss_one (ps_if (pt_not (pt_val (pe_cl G hr (by rfl) (t.g 1) (pa_cons (pv 2) pa_nil)))) (pss_one ps_never) pss_nil))), ?_⟩
    refine ⟨_, rfl, l, _, rfl, SqL.of hl, ?_⟩
    refine for_enumL (xs := iV xs) (fun i σ H' => (∃ u v, σ = [some (.ref l), u, v]) ∧ Same H H') ⟨⟨_, _, rfl⟩, Same.refl _⟩ (fun i σ H' ⟨_, b⟩ => SqL.of (b _ _ hl)) (fun i x T σ H' hx ⟨⟨u, v, es⟩, b⟩ hT => ?_) (fun σ H' ⟨_, b⟩ => hq H' b)
    subst es
    have hi : i < xs.length := by
      have := (List.getElem?_eq_some_iff.mp hx).1
      simpa using this
    rw [iat hi] at hx
    obtain rfl := (Option.some.inj hx).symm
    refine ⟨T, _, rfl, SqT.of upd_same, rfl, _, _, rfl, _, _, rfl, rfl, ?_⟩
    exact ⟨_, rfl, _, rfl, true, rfl, ⟨_, _, rfl⟩, b.trans (same_new hT)⟩
/-- check_values -/
def spChkV : Sp := fun vs H Q _ => ∃ (l : Addr) (xs : List Int), vs = [.int (xs.length : Nat), .ref l] ∧ H l = some (.lst (iV xs)) ∧ ∀ H', Same H H' → Q .non H'
theorem ok_check_values (t : Tx K mg base) : Okd P w K mg base 3 d_check_values ["width", "values"] spChkV := by
  have G : Okd P w K mg base 2 d_check_integers ["values"] spChkI := ok_check_integers t
  refine okd_of t 11 rfl (N := ["width", "values"]) ⟨rfl, rfl, rfl, by decide +kernel, rfl, by decide +kernel, by decide +kernel⟩ rfl rfl (fun _ _ _ _ _ _ us hl => match us, hl with | [_, _], _ => rfl) (fun vs H Q E h => ?_) fun cdv A outer s H vs Q E hr h => ?_
  · obtain ⟨_, _, rfl, _⟩ := h
    rfl
  · obtain ⟨l, xs, rfl, hl, hq⟩ := h
    refine ⟨_, pss_cons (ps_if (PW.pt (pw_or (pt_not (pt_val (pe_callB call_isi (by rfl) t.isinstance (by decide +kernel) (pa_cons (pv 1) (pa_cons (pe_bltn (v := .ty "list") (by rfl) t.list (by decide +kernel) rfl) pa_nil)))))
      (pw_or1 (pt_cmpR op_ne (pe_callB call_len_seq (by rfl) t.len PySem.boot_len (pa_cons (pv 1) pa_nil)) (pv 0) (nomark _))))) (pss_one ps_never) pss_nil)
      (pss_one (ps_expr (pe_cl G hr (by rfl) (t.g 5) (pa_cons (pv 1) pa_nil)))), ?_⟩
    refine ⟨_, rfl, _, _, _, _, true, rfl, .ty "list", .base (.lst hl), kit_ty (by decide +kernel), true, rfl, ?_⟩
    refine iteF ?_
    refine ⟨_, rfl, l, _, rfl, .inl (SqL.of hl), _, rfl, rfl, _, rfl, ?_⟩
    rw [iV_len]
    refine iteNS rfl ?_
    exact ⟨_, rfl, l, xs, rfl, hl, hq⟩
/-- run -/
def spRun : Sp := fun vs H Q _ => ∃ (a l : Addr) (W : Nat) (st : List Nat) (xs : List Int), vs = [.ref a, .ref l] ∧ Net K H a W st ∧ OkN W st ∧ H l = some (.lst (iV xs)) ∧ xs.length = W ∧
  ∀ H' p, Same H H' → H' p = some (.lst (iV (res st xs))) → Q (.ref p) H'
theorem ok_run (t : Tx K mg base) : Okd P w K mg base 4 d_run ["network", "values"] (spRun (K := K)) := by
  have G : Okd P w K mg base 3 d_check_values ["width", "values"] spChkV := ok_check_values t
  have G2 : Okd P w K mg base 3 d_result_of ["steps", "values"] spRes := okd_mono (ok_result_of t) (by decide)
  refine okd_of t 14 rfl (N := ["network", "values"]) ⟨rfl, rfl, rfl, by decide +kernel, rfl, by decide +kernel, by decide +kernel⟩ rfl rfl (fun _ _ _ _ _ _ us hl => match us, hl with | [_, _], _ => rfl) (fun vs H Q E h => ?_) fun cdv A outer s H vs Q E hr h => ?_
  · obtain ⟨_, _, _, _, _, rfl, _⟩ := h
    rfl
  · obtain ⟨a, l, W, st, xs, rfl, ⟨dx, tp, n1, n2⟩, ok, hl, hx, hq⟩ := h
    subst hx
    refine ⟨_, pss_cons (ps_expr (pe_cl G hr (by rfl) (t.g 6) (pa_cons (pe_width t (pv 0) (hr.mono (by decide))) (pa_cons (pv 1) pa_nil))))
      (pss_one (ps_ret (pe_cl G2 hr (by rfl) (t.g 8) (pa_cons (pe_steps t (pv 0) (hr.mono (by decide))) (pa_cons (pv 1) pa_nil))))), ?_⟩
    refine ⟨_, rfl, net_w n1 ⟨_, rfl, l, xs, rfl, hl, fun H1 s1 => ?_⟩⟩
    refine ⟨_, rfl, net_s (s1 _ _ n1) ⟨_, rfl, tp, l, st, xs, rfl, s1 _ _ n2, s1 _ _ hl, fun k hk => ok.at_ k hk, fun H' p s2 hp => hq H' p (s1.trans s2) hp⟩⟩
end
end Nw
end
section
/-! list(range(a, b, c)). -/
namespace Nw
open PySem PySem.Spec PyProof.Rows L2 ClX
def stV (i c : Int) (n : Nat) : List V := (List.range n).map fun (k : Nat) => V.int (i + (k : Nat) * c)
def tLR3 (ta : TA) : TE := fun σ H Q => ta σ H fun vs H1 => ∃ (i j c : Int) (n : Nat), vs = [.int i, .int j, .int c] ∧ RgC i j c n ∧ n ≤ 2 ^ 24 ∧ ∀ q, H1 q = none → Q (.ref q) (upd H1 q (.lst (stV i c n)))
theorem pe_lr3 {X : Cx} {a b c : Expr} {ta : TA} {p p2 pos pos2 : Pos} (hc : X.calm = true) (hg : Gl X "list") (hm : X.mg "list" = none) (hgr : Gl X "range") (hmr : X.mg "range" = none) (ha : PA X [a, b, c] ta)
    (hs : starEach [a, b, c] X.env = (false, eval a X.env) :: starEach [b, c] X.env := by rfl) (hpl : (backTo pos2 (starEach [b, c] X.env)).any (·.1) = false := by rfl)
    (na : starEach [.Call (.Name "range" p2) [a, b, c] [] pos2] X.env = (false, eval (.Call (.Name "range" p2) [a, b, c] [] pos2) X.env) :: starEach [] X.env := by rfl) :
    PE X (.Call (.Name "list" p) [.Call (.Name "range" p2) [a, b, c] [] pos2] [] pos) (tLR3 ta) := by
  refine ⟨fun pins s σ H Q I h => ?_⟩
  refine Call_ (ld_blt I hg hm boot_list (PyProof.Rows.callWith_type1 (args_cons ?_ na) na))
  refine Call_ (ld_blt I hgr hmr boot_range (PyProof.Rows.callWith_type1 (thn (ha.run pos2 pins s σ H _ I h) fun us s1 ⟨vs, H1, I1, r1, q1⟩ => ?_) hs hpl))
  obtain ⟨i, j, k, n, e, ⟨c0, c1, c2, c3⟩, hn, q⟩ := q1
  subst e
  cases r1 with
  | cons r rr =>
    cases rr with
    | cons r' rr =>
      cases rr with
      | cons r'' rr =>
        cases rr
        obtain ⟨t, rfl⟩ := r
        obtain ⟨t', rfl⟩ := r'
        obtain ⟨t'', rfl⟩ := r''
        refine call_range_3 c0 ?_ (.inl (PyProof.noPylong_small c1))
        have I2 : Inv X pins σ H1 { s1 with heap := s1.heap.push { cls := .type "range", data := .fields #[.int i t, .int j t', .int k t''] } } := I1.kept (t' := s1.toks) fun b o e => Heap.get?_push_of_some _ e
        refine args_nil (call_list_range (n := n) (I2.ok.hd hc) (IsRange.new ..) c2 c3 hn fun h' tk acc c' hk e' hi => ?_)
        refine ⟨.ref _, upd H1 _ (.lst (stV i k n)), I2.laid hk (Nat.le_refl _) (show ObjOk X.prog X.w _ _ _ (.lst (stV i k n)) from ⟨?_, acc.toList, c', ?_, ?_⟩), rfl, q _ (I2.hok.fresh (Nat.le_refl _))⟩
        · unfold stV
          rw [List.length_map, List.length_range, sizeLine_eq]
          omega
        · have e : acc.toList.length = n := by rw [Array.length_toList]; exact hi.1
          unfold stV
          rw [← e]
          refine vals_of_get acc.toList _ fun j u hj => ?_
          obtain ⟨t, rfl⟩ := hi.2 j u (by rw [← hj, Array.getElem?_toList])
          exact ⟨t, rfl⟩
        · rw [Array.toArray_toList]; exact e'
end Nw
end
section
/-! Promises: check_steps, Network(..), descending, profile, exchanges. -/
namespace Nw
open PySem PySem.Spec PyProof.Rows L2 ClX
/-- a list or a tuple of steps -/
def StAt (H : Hp) (x : Addr) (st : List Nat) : Prop := H x = some (.lst (nV st)) ∨ H x = some (.tup (nV st))
theorem StAt.same {H H' : Hp} {x : Addr} {st : List Nat} (h : StAt H x st) (s : Same H H') : StAt H' x st := h.elim (fun h => .inl (s _ _ h)) fun h => .inr (s _ _ h)
theorem StAt.some {H : Hp} {x : Addr} {st : List Nat} (h : StAt H x st) : ∃ o, H x = some o := h.elim (fun h => ⟨_, h⟩) fun h => ⟨_, h⟩
theorem nV_len (st : List Nat) : (nV st).length = st.length := List.length_map _
section
variable {P : Program} {w : World} {K : PySem.W.Frag} {mg : Str → Option Value} {base : Heap}
/-- check_steps -/
def spChkS : Sp := fun vs H Q _ => ∃ (W : Nat) (x : Addr) (st : List Nat), vs = [.int (W : Nat), .ref x] ∧ StAt H x st ∧ OkN W st ∧ ∀ H', Same H H' → Q .non H'
theorem ok_check_steps (t : Tx K mg base) : Okd P w K mg base 2 d_check_steps ["width", "steps"] spChkS := by
  have S : FnScope ["width", "steps", "index", "step"] ["width", "steps"] d_check_steps.scope := ⟨rfl, rfl, rfl, by decide +kernel, rfl, by decide +kernel, by decide +kernel⟩
  have G : Okd P w K mg base 1 d_is_integer ["value", "low", "high"] spIsInt := ok_is_integer t
  obtain ⟨u0, cv⟩ := t.maxs
  refine okd_of t 3 rfl S rfl rfl (fun _ _ _ _ _ _ us hl => match us, hl with | [_, _], _ => rfl) (fun vs H Q E h => ?_) fun cdv A outer s H vs Q E hr h => ?_
  · obtain ⟨_, _, _, rfl, _⟩ := h
    rfl
  · obtain ⟨W, x, st, rfl, hx, ok, hq⟩ := h
    have turn : ∀ (i : Nat) (y : V) (T : Addr) (σ : L2.St) (H' : Hp), (nV st)[i]? = some y → ((∃ u v, σ = [some (.int W), some (.ref x), u, v]) ∧ Same H H') → H' T = none →
      y = V.int ((st.getD i 0 : Nat) : Int) ∧ (decide ((1 : Int) ≤ ((st.getD i 0 : Nat) : Int)) && decide (((st.getD i 0 : Nat) : Int) ≤ (W : Int) - 1)) = true ∧ Same H (upd H' T (.tup [.int (0 + (i : Nat)), y])) ∧ Same H (upd H' T (.tup [.int (i : Nat), y])) := by
      intro i y T σ H' hy ⟨_, b⟩ hT
      have hi : i < st.length := by
        have := (List.getElem?_eq_some_iff.mp hy).1
        simpa using this
      have hz := ok.at_ _ (List.getElem_mem hi)
      have e : st.getD i 0 = st[i] := by
        rw [List.getD_eq_getElem?_getD, List.getElem?_eq_getElem hi]
        rfl
      rw [nat_ hi] at hy
      rw [e]
      refine ⟨(Option.some.inj hy).symm, ?_, b.trans (same_new hT), b.trans (same_new hT)⟩
      rw [decide_eq_true (by omega), decide_eq_true (by omega)]
      rfl
    have seq : ∀ {H' : Hp}, Same H H' → (SqL K H' x (nV st) ∨ SqT K H' x (nV st)) := fun b => (hx.same b).elim (fun h => .inl (SqL.of h)) fun h => .inr (SqT.of h)
    rcases hx with hx | hx
    · refine ⟨_, pss_cons (ps_if (PW.pt (pw_or (pt_not (pt_val (pe_callB call_isiT (by rfl) t.isinstance (by decide +kernel) (pa_cons (pv 1) (pa_cons (pe_tup (pa_cons (pe_bltn (v := .ty "list") (by rfl) t.list (by decide +kernel) rfl) (pa_cons (pe_bltn (v := .ty "tuple") (by rfl) t.tuple (by decide +kernel) rfl) pa_nil))) pa_nil)))))
        (pw_or1 (pt_cmpR op_gt (pe_callB call_len_seq (by rfl) t.len PySem.boot_len (pa_cons (pv 1) pa_nil)) (pe_cval (pe_glob (v := .ref (He.ga K "Network")) (by rfl) t.net rfl)) (nomark _))))) (pss_one ps_never) pss_nil)
        (pss_one (ps_for PassesOwn.leaving rfl (pi_enum (by rfl) t.enumerate (pa_cons (pv 1) pa_nil)) (pg_tup (by rfl) (pgs_cons (pg_name (i := 2) S.nd rfl (Or.inl rfl)) (pgs_cons (pg_name (i := 3) S.nd rfl (Or.inl rfl)) pgs_nil)))
        (pss_one (ps_if (pt_not (pt_val (pe_cl G hr (by rfl) (t.g 0) (pa_cons (pv 3) (pa_cons pe_int (pa_cons (pe_op op_sub (pv 0) pe_int) pa_nil)))))) (pss_one ps_never) pss_nil)))), ?_⟩
      refine ⟨_, rfl, (by show 2 ≤ sizeLine; decide), fun p hp => ?_⟩
      have s1 : Same H (upd H p (.tup [V.ty "list", V.ty "tuple"])) := same_new hp
      refine ⟨_, p, _, _, _, true, rfl, upd_same, .cons (.ty "list") (.cons (.ty "tuple") .nil), .base (.lst (s1 _ _ hx)), kitAny_cons (b := true) (kit_ty (b := "list") (by decide +kernel)) (fun z => nomatch z) (fun _ => rfl), true, rfl, ?_⟩
      refine iteF ?_
      refine ⟨_, rfl, x, _, rfl, .inl (SqL.of (s1 _ _ hx)), _, _, _, _, rfl, t.cread, cv, ?_⟩
      refine ⟨_, _, rfl, rfl, _, rfl, ?_⟩
      refine ite2 (fun z => absurd (of_decide_eq_true z) (by rw [nV_len]; have := ok.len; omega)) fun _ => ?_
      refine ⟨_, rfl, x, _, rfl, SqL.of (s1 _ _ hx), ?_⟩
      refine for_enumL (xs := nV st) (fun i σ H' => (∃ u v, σ = [some (.int W), some (.ref x), u, v]) ∧ Same H H') ⟨⟨_, _, rfl⟩, s1⟩ (fun i σ H' ⟨_, b⟩ => SqL.of (b _ _ hx)) (fun i y T σ H' hy Pv hT => ?_) (fun σ H' ⟨_, b⟩ => hq H' b)
      obtain ⟨e1, e2, _, e4⟩ := turn i y T σ H' hy Pv hT
      obtain ⟨⟨u, v, es⟩, b⟩ := Pv
      subst es e1
      refine ⟨T, _, rfl, SqT.of upd_same, rfl, _, _, rfl, _, _, rfl, rfl, ?_⟩
      refine ⟨_, rfl, _, rfl, _, _, rfl, rfl, _, _, _, rfl, ?_⟩
      rw [e2]
      exact ⟨true, rfl, ⟨_, _, rfl⟩, e4⟩
    · refine ⟨_, pss_cons (ps_if (PW.pt (pw_or (pt_not (pt_val (pe_callB call_isiT (by rfl) t.isinstance (by decide +kernel) (pa_cons (pv 1) (pa_cons (pe_tup (pa_cons (pe_bltn (v := .ty "list") (by rfl) t.list (by decide +kernel) rfl) (pa_cons (pe_bltn (v := .ty "tuple") (by rfl) t.tuple (by decide +kernel) rfl) pa_nil))) pa_nil)))))
        (pw_or1 (pt_cmpR op_gt (pe_callB call_len_seq (by rfl) t.len PySem.boot_len (pa_cons (pv 1) pa_nil)) (pe_cval (pe_glob (v := .ref (He.ga K "Network")) (by rfl) t.net rfl)) (nomark _))))) (pss_one ps_never) pss_nil)
        (pss_one (ps_for PassesOwn.leaving rfl (pi_enumT (by rfl) t.enumerate (pa_cons (pv 1) pa_nil)) (pg_tup (by rfl) (pgs_cons (pg_name (i := 2) S.nd rfl (Or.inl rfl)) (pgs_cons (pg_name (i := 3) S.nd rfl (Or.inl rfl)) pgs_nil)))
        (pss_one (ps_if (pt_not (pt_val (pe_cl G hr (by rfl) (t.g 0) (pa_cons (pv 3) (pa_cons pe_int (pa_cons (pe_op op_sub (pv 0) pe_int) pa_nil)))))) (pss_one ps_never) pss_nil)))), ?_⟩
      refine ⟨_, rfl, (by show 2 ≤ sizeLine; decide), fun p hp => ?_⟩
      have s1 : Same H (upd H p (.tup [V.ty "list", V.ty "tuple"])) := same_new hp
      refine ⟨_, p, _, _, _, true, rfl, upd_same, .cons (.ty "list") (.cons (.ty "tuple") .nil), .base (.tup (s1 _ _ hx)), kitAny_cons (b := false) (kit_ty (b := "list") (by decide +kernel)) (fun _ => kitAny_cons (b := true) (kit_ty (b := "tuple") (by decide +kernel)) (fun z => nomatch z) (fun _ => rfl)) (fun z => nomatch z), true, rfl, ?_⟩
      refine iteF ?_
      refine ⟨_, rfl, x, _, rfl, .inr (SqT.of (s1 _ _ hx)), _, _, _, _, rfl, t.cread, cv, ?_⟩
      refine ⟨_, _, rfl, rfl, _, rfl, ?_⟩
      refine ite2 (fun z => absurd (of_decide_eq_true z) (by rw [nV_len]; have := ok.len; omega)) fun _ => ?_
      refine ⟨_, rfl, x, _, rfl, SqT.of (s1 _ _ hx), ?_⟩
      refine for_enum (xs := nV st) (fun i σ H' => (∃ u v, σ = [some (.int W), some (.ref x), u, v]) ∧ Same H H') ⟨⟨_, _, rfl⟩, s1⟩ (fun i σ H' ⟨_, b⟩ => SqT.of (b _ _ hx)) (fun i y T σ H' hy Pv hT => ?_) (fun σ H' ⟨_, b⟩ => hq H' b)
      obtain ⟨e1, e2, e3, _⟩ := turn i y T σ H' hy Pv hT
      obtain ⟨⟨u, v, es⟩, b⟩ := Pv
      subst es e1
      refine ⟨T, _, rfl, SqT.of upd_same, rfl, _, _, rfl, _, _, rfl, rfl, ?_⟩
      refine ⟨_, rfl, _, rfl, _, _, rfl, rfl, _, _, _, rfl, ?_⟩
      rw [e2]
      exact ⟨true, rfl, ⟨_, _, rfl⟩, e3⟩
/-- Network.__init__ -/
def spInit (K : PySem.W.Frag) : Sp := fun vs H Q _ => ∃ (o dx x : Addr) (W : Nat) (st : List Nat), vs = [.ref o, .int (W : Nat), .ref x] ∧ H o = some (.ins (He.ga K "Network") dx []) ∧ StAt H x st ∧ OkN W st ∧
  ∀ H', Mut o H H' → Net K H' o W st → Q .non H'
theorem ok_init (t : Tx K mg base) : Okd P w K mg base 3 d_Network_init ["self", "width", "steps"] (spInit K) := by
  have G1 : Okd P w K mg base 2 d_check_width_networks ["width"] spCheckW := ok_check_width t
  have G2 : Okd P w K mg base 2 d_check_steps ["width", "steps"] spChkS := ok_check_steps t
  refine okd_of t 5 rfl (N := ["self", "width", "steps"]) ⟨rfl, rfl, rfl, by decide +kernel, rfl, by decide +kernel, by decide +kernel⟩ rfl rfl (fun _ _ _ _ _ _ us hl => match us, hl with | [_, _, _], _ => rfl) (fun vs H Q E h => ?_) fun cdv A outer s H vs Q E hr h => ?_
  · obtain ⟨_, _, _, _, _, rfl, _⟩ := h
    rfl
  · obtain ⟨o, dx, x, W, st, rfl, ho, hx, ok, hq⟩ := h
    refine ⟨_, pss_cons (ps_expr (pe_cl G1 hr (by rfl) (t.g 2) (pa_cons (pv 1) pa_nil)))
      (pss_cons (ps_expr (pe_cl G2 hr (by rfl) (t.g 3) (pa_cons (pv 1) (pa_cons (pv 2) pa_nil))))
      (pss_cons (ps_fld (pv 0) (pv 1) rfl)
      (pss_one (ps_fld (pv 0) (pe_callTy call_tuple_of (by rfl) t.tuple (by decide +kernel) (pa_cons (pv 2) pa_nil)) rfl)))), ?_⟩
    refine ⟨_, rfl, W, rfl, ok.lo, ok.hi, ?_⟩
    refine ⟨_, rfl, _, rfl, W, x, st, rfl, hx, ok, fun H1 s1 => ?_⟩
    refine ⟨_, rfl, _, rfl, o, _, dx, [], rfl, s1 _ _ ho, t.cl, t.nw, (by decide), ?_⟩
    have hxo : ∀ z ob, z ≠ o → H z = some ob → (upd H1 o (.ins (He.ga K "Network") dx (putF "own_width" (.int W) []))) z = some ob := fun z ob hz hh => (upd_ne hz).trans (s1 _ _ hh)
    have m1 : Mut o H (upd H1 o (.ins (He.ga K "Network") dx (putF "own_width" (.int W) []))) := fun a ob ha hh => hxo a ob ha hh
    rcases hx with hx | hx
    · have hne : x ≠ o := ne_of hx ho (by intro z; cases z)
      have hx1 := m1 _ _ hne hx
      refine ⟨_, rfl, x, _, rfl, .inl ⟨SqL.of hx1, fun l hl => ?_⟩⟩
      have hol : o ≠ l := ne_of_none upd_same hl
      refine ⟨_, rfl, o, _, dx, _, rfl, (upd_ne hol).trans upd_same, t.cl, t.ns_, (by show (1 : Nat) < 1000; decide), ?_⟩
      refine hq _ (fun a ob ha hh => ?_) ⟨dx, l, upd_same, (upd_ne (Ne.symm hol)).trans upd_same⟩
      exact (upd_ne ha).trans ((upd_ne (ne_of_none (m1 _ _ ha hh) hl)).trans (m1 _ _ ha hh))
    · have hne : x ≠ o := ne_of hx ho (by intro z; cases z)
      have hx1 := m1 _ _ hne hx
      refine ⟨_, rfl, x, _, rfl, .inr ⟨SqT.of hx1, ?_⟩⟩
      refine ⟨_, rfl, o, _, dx, _, rfl, upd_same, t.cl, t.ns_, (by show (1 : Nat) < 1000; decide), ?_⟩
      exact hq _ (fun a ob ha hh => (upd_ne ha).trans (m1 _ _ ha hh)) ⟨dx, x, upd_same, (upd_ne hne).trans hx1⟩
theorem pe_mk {X : Cx} {p pos : Pos} {e : Expr} {es : List Expr} {t : TA} (tx : Tx X.K X.mg X.base) (hr : Room 4 X.A) (hg : Gl X "Network") (ha : PA X (e :: es) t)
    (he : starEach (e :: es) X.env = (false, eval e X.env) :: starEach es X.env := by rfl) (hpl : (backTo pos (starEach es X.env)).any (·.1) = false := by rfl) :
    PE X (.Call (.Name "Network" p) (e :: es) [] pos) (tMake (He.ga X.K "Network") (spInit X.K) [] E0 t) := by
  obtain ⟨fd, F, G, b⟩ := (ok_init tx : Okd X.prog X.w X.K X.mg X.base 3 _ _ _)
  exact pe_make tx.mkr G hr hg tx.net b .nil pass0 ha (by decide) he hpl
theorem mk_net {H : Hp} {y : Addr} {W : Nat} {st : List Nat} {Q : VK} {E : XK} (ok : OkN W st) (hy : StAt H y st) (q : ∀ H' x, Same H H' → H x = none → Net K H' x W st → Q (.ref x) H') :
    ∀ x dx, H x = none → H dx = none → dx ≠ x → spInit K (.ref x :: ([.int (W : Nat), .ref y] ++ [])) (upd (upd H dx (.own x)) x (.ins (He.ga K "Network") dx [])) (fun v H2 => v = .non ∧ Q (.ref x) H2) E := by
  intro x dx hx hdx hne
  have s0 : ∀ (a : Addr) (o : HO), H a = some o → (upd (upd H dx (.own x)) x (.ins (He.ga K "Network") dx [])) a = some o := fun a o h => (upd_ne (ne_of_none h hx)).trans ((upd_ne (ne_of_none h hdx)).trans h)
  refine ⟨x, dx, y, W, st, rfl, upd_same, hy.same s0, ok, fun H' m n => ⟨rfl, q H' x (fun a o h => m a o (ne_of_none h hx) (s0 a o h)) hx n⟩⟩
end
end Nw
end
section
/-! Promises: check_widths, descending, profile, exchanges, active, reduced. -/
namespace Nw
open PySem PySem.Spec PyProof.Rows L2 ClX
section
variable {P : Program} {w : World} {K : PySem.W.Frag} {mg : Str → Option Value} {base : Heap}
/-- check_widths -/
def spChkW (K : PySem.W.Frag) : Sp := fun vs H Q _ => ∃ (a b : Addr) (W : Nat) (st st' : List Nat), vs = [.ref a, .ref b] ∧ Net K H a W st ∧ Net K H b W st' ∧ Q .non H
theorem ok_check_widths (t : Tx K mg base) : Okd P w K mg base 3 d_check_widths ["first", "second"] (spChkW K) := by
  refine okd_of t 4 rfl (N := ["first", "second"]) ⟨rfl, rfl, rfl, by decide +kernel, rfl, by decide +kernel, by decide +kernel⟩ rfl rfl (fun _ _ _ _ _ _ us hl => match us, hl with | [_, _], _ => rfl) (fun vs H Q E h => ?_) fun cdv A outer s H vs Q E hr h => ?_
  · obtain ⟨_, _, _, _, _, rfl, _⟩ := h
    rfl
  · obtain ⟨a, b, W, st, st', rfl, ⟨dx, tp, n1, _⟩, ⟨dx', tp', n1', _⟩, hq⟩ := h
    refine ⟨_, pss_one (ps_if (pt_cmpR op_ne (pe_width t (pv 0) (hr.mono (by decide))) (pe_width t (pv 1) (hr.mono (by decide))) (nomark _)) (pss_one ps_never) pss_nil), ?_⟩
    exact ⟨_, rfl, net_w n1 ⟨_, rfl, net_w n1' ⟨rfl, _, rfl, iteNS rfl hq⟩⟩⟩
/-- descending -/
def spDesc : Sp := fun vs H Q _ => ∃ W : Nat, vs = [.int (W : Nat)] ∧ W ≤ 40 ∧ ∀ H' p, Same H H' → H' p = some (.lst (iV (desc W))) → Q (.ref p) H'
theorem ok_descending (t : Tx K mg base) : Okd P w K mg base 1 d_descending ["width"] spDesc := by
  refine okd_of t 16 rfl (N := ["width"]) ⟨rfl, rfl, rfl, by decide +kernel, rfl, by decide +kernel, by decide +kernel⟩ rfl rfl (fun _ _ _ _ _ _ us hl => match us, hl with | [_], _ => rfl) (fun vs H Q E h => ?_) fun cdv A outer s H vs Q E hr h => ?_
  · obtain ⟨_, rfl, _⟩ := h
    rfl
  · obtain ⟨W, rfl, hW, hq⟩ := h
    refine ⟨_, pss_one (ps_ret (pe_lr3 (by rfl) (by rfl) t.list (by rfl) t.range (pa_cons (pv 0) (pa_cons pe_int (pa_cons (pe_un un_neg pe_int) pa_nil))))), ?_⟩
    refine ⟨_, rfl, _, rfl, (W : Int), 0, -1, W, rfl, ?_, (by omega), fun q hq' => ?_⟩
    · have := RgC.neg (i := (W : Int)) (j := 0) (by omega) (by omega) (by omega) (by omega)
      rw [show ((W : Int) - 0).toNat = W by omega] at this
      exact this
    · refine hq _ q (same_new hq') ?_
      rw [upd_same]
      unfold stV desc iV
      rw [List.map_map]
      refine congrArg (fun z => some (HO.lst z)) (List.map_congr_left fun k _ => ?_)
      show V.int _ = V.int _
      rw [show (W : Int) + (k : Nat) * -1 = (W : Int) - (k : Nat) by omega]
/-- profile -/
def spProf (K : PySem.W.Frag) : Sp := fun vs H Q _ => ∃ (a : Addr) (W : Nat) (st : List Nat), vs = [.ref a] ∧ Net K H a W st ∧ OkN W st ∧ ∀ H' p, Same H H' → H' p = some (.lst (iV (res st (desc W)))) → Q (.ref p) H'
theorem ok_profile (t : Tx K mg base) : Okd P w K mg base 3 d_profile ["network"] (spProf K) := by
  have G1 : Okd P w K mg base 2 d_descending ["width"] spDesc := okd_mono (ok_descending t) (by decide)
  have G2 : Okd P w K mg base 2 d_result_of ["steps", "values"] spRes := ok_result_of t
  refine okd_of t 17 rfl (N := ["network"]) ⟨rfl, rfl, rfl, by decide +kernel, rfl, by decide +kernel, by decide +kernel⟩ rfl rfl (fun _ _ _ _ _ _ us hl => match us, hl with | [_], _ => rfl) (fun vs H Q E h => ?_) fun cdv A outer s H vs Q E hr h => ?_
  · obtain ⟨_, _, _, rfl, _⟩ := h
    rfl
  · obtain ⟨a, W, st, rfl, ⟨dx, tp, n1, n2⟩, ok, hq⟩ := h
    refine ⟨_, pss_one (ps_ret (pe_cl G2 hr (by rfl) (t.g 8) (pa_cons (pe_steps t (pv 0) hr) (pa_cons (pe_cl G1 hr (by rfl) (t.g 11) (pa_cons (pe_width t (pv 0) hr) pa_nil)) pa_nil)))), ?_⟩
    refine ⟨_, rfl, net_s n1 ⟨_, rfl, net_w n1 ⟨W, rfl, ok.hi, fun H1 p s1 hp => ?_⟩⟩⟩
    refine ⟨tp, p, st, _, rfl, s1 _ _ n2, hp, fun k hk => ?_, fun H2 p2 s2 hp2 => hq H2 p2 (s1.trans s2) hp2⟩
    rw [desc_len]
    exact ok.at_ k hk
/-- exchanges -/
def spExch (K : PySem.W.Frag) : Sp := fun vs H Q _ => ∃ (a l : Addr) (W : Nat) (st : List Nat) (xs : List Int), vs = [.ref a, .ref l] ∧ Net K H a W st ∧ OkN W st ∧ H l = some (.lst (iV xs)) ∧ xs.length = W ∧
  ∀ H' p, Same H H' → H' p = some (.lst (nV (exch 0 st xs))) → Q (.ref p) H'
theorem ok_exchanges (t : Tx K mg base) : Okd P w K mg base 4 d_exchanges ["network", "values"] (spExch K) := by
  have S : FnScope ["network", "values", "current", "result", "index", "step"] ["network", "values"] d_exchanges.scope := ⟨rfl, rfl, rfl, by decide +kernel, rfl, by decide +kernel, by decide +kernel⟩
  have G : Okd P w K mg base 3 d_check_values ["width", "values"] spChkV := ok_check_values t
  have G2 : Okd P w K mg base 3 d_step_on ["values", "step"] spStep := okd_mono (ok_step_on t) (by decide)
  refine okd_of t 15 rfl S rfl rfl (fun _ _ _ _ _ _ us hl => match us, hl with | [_, _], _ => rfl) (fun vs H Q E h => ?_) fun cdv A outer s H vs Q E hr h => ?_
  · obtain ⟨_, _, _, _, _, rfl, _⟩ := h
    rfl
  · obtain ⟨a, l, W, st, xs, rfl, ⟨dx, tp, n1, n2⟩, ok, hl, hx, hq⟩ := h
    subst hx
    refine ⟨_, pss_cons (ps_expr (pe_cl G hr (by rfl) (t.g 6) (pa_cons (pe_width t (pv 0) (hr.mono (by decide))) (pa_cons (pv 1) pa_nil))))
      (pss_cons (ps_set (i := 2) S.nd rfl (Or.inl rfl) (pe_callTy call_list_of (by rfl) t.list (by decide +kernel) (pa_cons (pv 1) pa_nil)))
      (pss_cons (ps_set (i := 3) S.nd rfl (Or.inl rfl) (pe_lst pa_nil))
      (pss_cons (ps_for PassesOwn.leaving rfl (pi_enumT (by rfl) t.enumerate (pa_cons (pe_steps t (pv 0) (hr.mono (by decide))) pa_nil)) (pg_tup (by rfl) (pgs_cons (pg_name (i := 4) S.nd rfl (Or.inl rfl)) (pgs_cons (pg_name (i := 5) S.nd rfl (Or.inl rfl)) pgs_nil)))
        (pss_one (ps_if (pt_val (pe_cl G2 hr (by rfl) (t.g 7) (pa_cons (pv 2) (pa_cons (pv 5) pa_nil)))) (pss_one (ps_expr (pe_bm PySem.F.plainAttrs_list PySem.F.slot_list_append PySem.F.type_list_append mt_append (pv 3) (pa_cons (pv 4) pa_nil)))) pss_nil)))
      (pss_one (ps_ret (pv 3)))))), ?_⟩
    refine ⟨_, rfl, net_w n1 ⟨_, rfl, l, xs, rfl, hl, fun H1 s1 => ?_⟩⟩
    refine ⟨_, rfl, l, _, rfl, .inl (SqL.of (s1 _ _ hl)), fun c hc => ?_⟩
    refine ⟨(by show 0 ≤ sizeLine; decide), fun r hrn => ?_⟩
    have s2 : Same H1 (upd H1 c (.lst (iV xs))) := same_new hc
    have s3 : Same (upd H1 c (.lst (iV xs))) (upd (upd H1 c (.lst (iV xs))) r (.lst [])) := same_new hrn
    have hcr : c ≠ r := ne_of_none upd_same hrn
    have fc : H c = none := s1.free hc
    have fr : H r = none := (s1.trans s2).free hrn
    refine ⟨_, rfl, net_s (s3 _ _ (s2 _ _ (s1 _ _ n1))) ⟨tp, _, rfl, SqT.of (s3 _ _ (s2 _ _ (s1 _ _ n2))), ?_⟩⟩
    refine for_enum (xs := nV st) (fun i σ H' => (∃ u v, σ = [some (.ref a), some (.ref l), some (.ref c), some (.ref r), u, v]) ∧ Same H H' ∧ H' c = some (.lst (iV (res (st.take i) xs))) ∧ H' r = some (.lst (nV (exch 0 (st.take i) xs))))
      ⟨⟨_, _, rfl⟩, s1.trans (s2.trans s3), (upd_ne hcr).trans upd_same, upd_same⟩ (fun i σ H' ⟨_, b, _⟩ => SqT.of (b _ _ n2)) (fun i y T σ H' hy ⟨⟨u, v, es⟩, b, b1, b2⟩ hT => ?_) (fun σ H' ⟨⟨u, v, es⟩, b, b1, b2⟩ => ?_)
    · subst es
      have hi : i < st.length := by
        have := (List.getElem?_eq_some_iff.mp hy).1
        simpa using this
      rw [nat_ hi] at hy
      obtain rfl := (Option.some.inj hy).symm
      have hz := ok.at_ _ (List.getElem_mem hi)
      have sT : Same H' (upd H' T (.tup [.int (0 + (i : Nat)), V.int (st[i] : Nat)])) := same_new hT
      refine ⟨T, _, rfl, SqT.of upd_same, rfl, _, _, rfl, _, _, rfl, rfl, ?_⟩
      refine ⟨_, rfl, _, rfl, c, _, st[i], rfl, sT _ _ b1, hz.1, (by rw [res_len]; exact hz.2), fun H2 m1 m2 => ?_⟩
      have r2 : H2 r = some (.lst (nV (exch 0 (st.take i) xs))) := m1 _ _ (Ne.symm hcr) (sT _ _ b2)
      have c2 : H2 c = some (.lst (iV (res (st.take (i + 1)) xs))) := by
        rw [m2, List.take_succ_eq_append_getElem hi, res_snoc]
      have e2 : exch 0 (st.take (i + 1)) xs = exch 0 (st.take i) xs ++ (if swp (res (st.take i) xs) st[i] = true then [i] else []) := by
        rw [List.take_succ_eq_append_getElem hi, exch_snoc, List.length_take, Nat.min_eq_left (Nat.le_of_lt hi), Nat.zero_add]
      have sH : Same H H2 := same_mut (b.trans sT) fc m1
      refine ⟨_, rfl, ?_⟩
      refine ite2 (fun z => ?_) (fun z => ?_)
      · rw [if_pos z] at e2
        refine ⟨_, rfl, .inl ⟨rfl, _, SqL.of r2⟩, _, rfl, r, _, _, rfl, rfl, r2, ?_, ⟨_, _, rfl⟩, fun q o hh => (upd_ne (ne_of_none hh fr)).trans (sH q o hh), (upd_ne hcr).trans c2, ?_⟩
        · rw [nV_len]
          refine small1000 (Nat.le_trans (exch_len _ _ _) ?_)
          rw [List.length_take]
          exact Nat.le_trans (Nat.min_le_right _ _) ok.len
        · rw [upd_same, e2, nV, nV, List.map_append]
          simp
      · rw [if_neg z, List.append_nil] at e2
        refine ⟨⟨_, _, rfl⟩, sH, c2, ?_⟩
        rw [e2]
        exact r2
    · subst es
      refine ⟨_, rfl, hq H' r b ?_⟩
      rw [b2, nV_len, List.take_length]
end
end Nw
end
section
/-! Promises: active, reduced, at_most, count_small. -/
namespace Nw
open PySem PySem.Spec PyProof.Rows L2 ClX
theorem cut_take {xs : List Int} {p : Nat} (h : p ≤ xs.length) : cutV (iV xs) none (some (p : Int)) = iV (xs.take p) := by
  unfold cutV
  rw [HT.sIx_none, HT.sIx_nat, List.drop_zero, Nat.sub_zero, iV_len, Nat.min_eq_left h, ← List.map_take]
theorem sum_ones : ∀ n : Nat, (List.replicate n (1 : Int)).sum = (n : Nat)
  | 0 => rfl
  | n + 1 => by
    rw [List.replicate_succ, List.sum_cons, sum_ones n]
    omega
section
variable {P : Program} {w : World} {K : PySem.W.Frag} {mg : Str → Option Value} {base : Heap}
/-- active -/
def spAct (K : PySem.W.Frag) : Sp := fun vs H Q _ => ∃ (a : Addr) (W : Nat) (st : List Nat), vs = [.ref a] ∧ Net K H a W st ∧ OkN W st ∧ ∀ H' p, Same H H' → H' p = some (.lst (nV (exch 0 st (desc W)))) → Q (.ref p) H'
theorem ok_active (t : Tx K mg base) : Okd P w K mg base 5 d_active ["network"] (spAct K) := by
  have G1 : Okd P w K mg base 4 d_descending ["width"] spDesc := okd_mono (ok_descending t) (by decide)
  have G2 : Okd P w K mg base 4 d_exchanges ["network", "values"] (spExch K) := ok_exchanges t
  refine okd_of t 23 rfl (N := ["network"]) ⟨rfl, rfl, rfl, by decide +kernel, rfl, by decide +kernel, by decide +kernel⟩ rfl rfl (fun _ _ _ _ _ _ us hl => match us, hl with | [_], _ => rfl) (fun vs H Q E h => ?_) fun cdv A outer s H vs Q E hr h => ?_
  · obtain ⟨_, _, _, rfl, _⟩ := h
    rfl
  · obtain ⟨a, W, st, rfl, n, ok, hq⟩ := h
    obtain ⟨dx, tp, n1, n2⟩ := id n
    refine ⟨_, pss_one (ps_ret (pe_cl G2 hr (by rfl) (t.g 10) (pa_cons (pv 0) (pa_cons (pe_cl G1 hr (by rfl) (t.g 11) (pa_cons (pe_width t (pv 0) (hr.mono (by decide))) pa_nil)) pa_nil)))), ?_⟩
    refine ⟨_, rfl, _, rfl, net_w n1 ⟨W, rfl, ok.hi, fun H1 p s1 hp => ?_⟩⟩
    exact ⟨a, p, W, st, _, rfl, n.same s1, ok, hp, desc_len W, fun H2 p2 s2 hp2 => hq H2 p2 (s1.trans s2) hp2⟩
theorem OkN.red {W : Nat} {st : List Nat} (ok : OkN W st) (xs : List Int) : OkN W (red st xs) := ⟨ok.lo, ok.hi, Nat.le_trans (red_len _ _) ok.len, fun k hk => ok.at_ k (red_mem _ _ k hk)⟩
/-- reduced -/
def spRed (K : PySem.W.Frag) : Sp := fun vs H Q _ => ∃ (a : Addr) (W : Nat) (st : List Nat), vs = [.ref a] ∧ Net K H a W st ∧ OkN W st ∧ ∀ H' p, Same H H' → H p = none → Net K H' p W (red st (desc W)) → Q (.ref p) H'
theorem ok_reduced (t : Tx K mg base) : Okd P w K mg base 6 d_reduced ["network"] (spRed K) := by
  have S : FnScope ["network", "index"] ["network"] d_reduced.scope := ⟨rfl, rfl, rfl, by decide +kernel, rfl, by decide +kernel, by decide +kernel⟩
  have G1 : Okd P w K mg base 5 d_active ["network"] (spAct K) := ok_active t
  refine okd_of t 24 rfl S rfl rfl (fun _ _ _ _ _ _ us hl => match us, hl with | [_], _ => rfl) (fun vs H Q E h => ?_) fun cdv A outer s H vs Q E hr h => ?_
  · obtain ⟨_, _, _, rfl, _⟩ := h
    rfl
  · obtain ⟨a, W, st, rfl, n, ok, hq⟩ := h
    obtain ⟨dx, tp, n1, n2⟩ := id n
    refine ⟨_, pss_one (ps_ret (pe_mk t (hr.mono (by decide)) (by rfl) (pa_cons (pe_width t (pv 0) (hr.mono (by decide)))
      (pa_cons (pe_lc (own := [("index", 1)]) (g := gName 1) (tt := tYes) rfl S.nd (pi_list (pe_cl G1 hr (by rfl) (t.g 18) (pa_cons (pv 0) pa_nil))) (blkOk_by (N := ["network", "index"]) (sc := d_reduced.scope) (by decide +kernel))
        (fun _ _ _ _ _ => pg_name (i := 1) S.nd rfl (Or.inl rfl)) (fun _ _ _ _ _ => pts_nil) (fun _ _ _ _ _ => pe_ixT (K := K) (pe_stepsK t (pv 0) (Room.mono (k := 5) hr (by decide))) (pv 1) (fun _ _ => rfl))) pa_nil)))), ?_⟩
    refine ⟨_, rfl, net_w n1 ?_⟩
    refine ⟨_, rfl, a, W, st, rfl, n, ok, fun H1 q s1 hql => ?_⟩
    refine ⟨q, rfl, ⟨_, SqL.of hql⟩, fun D hD => ?_⟩
    have el : ∀ j ∈ exch 0 st (desc W), j < st.length := fun j hj => by
      have := exch_lt 0 st (desc W) j hj
      omega
    refine lc_list (xs := nV (exch 0 st (desc W))) (fun i H' => Same H1 H' ∧ H' D = some (.lst (nV (((exch 0 st (desc W)).take i).map fun j => st.getD j 0)))) ⟨same_new hD, upd_same⟩ (fun i H' _ ⟨b, _⟩ => SqL.of (b _ _ hql)) (fun i x H' hx ⟨b, b1⟩ => ?_) (fun H' ⟨b, b1⟩ => ?_)
    · have hi : i < (exch 0 st (desc W)).length := by
        have := (List.getElem?_eq_some_iff.mp hx).1
        simpa using this
      rw [nat_ hi] at hx
      obtain rfl := (Option.some.inj hx).symm
      have hj := el _ (List.getElem_mem hi)
      refine ⟨rfl, ?_⟩
      refine ⟨_, rfl, net_s (b _ _ (s1 _ _ n1)) ⟨_, rfl, tp, _, _, _, rfl, rfl, SqT.of (b _ _ (s1 _ _ n2)), atI_nat (nat_ hj), ?_⟩⟩
      refine ⟨_, b1, ?_, fun q' o hh => (upd_ne (ne_of_none hh hD)).trans (b q' o hh), ?_⟩
      · rw [nV_len, List.length_map]
        have e1 := exch_len 0 st (desc W)
        have e2 := ok.len
        refine small1000 ?_
        rw [List.length_take]
        omega
      · rw [upd_same, List.take_succ_eq_append_getElem hi, List.map_append, nV, nV, List.map_append]
        have e : st.getD (exch 0 st (desc W))[i] 0 = st[(exch 0 st (desc W))[i]] := by
          rw [List.getD_eq_getElem?_getD, List.getElem?_eq_getElem hj]
          rfl
        rw [List.map_cons, List.map_nil, List.map_cons, List.map_nil, e]
    · rw [nV_len, List.take_length] at b1
      rw [show ((exch 0 st (desc W)).map fun j => st.getD j 0) = red st (desc W) from exch_red [] st (desc W)] at b1
      refine mk_net (ok.red _) (.inl b1) fun H2 x s2 nx nn => hq H2 x (s1.trans (b.trans s2)) (Same.free (s1.trans b) nx) nn
/-- at_most -/
def spAtM : Sp := fun vs H Q _ => ∃ (l : Addr) (xs : List Int) (b : Int), vs = [.ref l, .int b] ∧ H l = some (.lst (iV xs)) ∧ xs.length ≤ 1000 ∧ ∀ H' p, Same H H' → H' p = some (.lst (xs.map fun x => V.bl (decide (x ≤ b)))) → Q (.ref p) H'
theorem ok_at_most (t : Tx K mg base) : Okd P w K mg base 1 d_at_most ["numbers", "bound"] spAtM := by
  have S : FnScope ["numbers", "bound", "number"] ["numbers", "bound"] d_at_most.scope := ⟨rfl, rfl, rfl, by decide +kernel, rfl, by decide +kernel, by decide +kernel⟩
  refine okd_of t 18 rfl S rfl rfl (fun _ _ _ _ _ _ us hl => match us, hl with | [_, _], _ => rfl) (fun vs H Q E h => ?_) fun cdv A outer s H vs Q E hr h => ?_
  · obtain ⟨_, _, _, rfl, _⟩ := h
    rfl
  · obtain ⟨l, xs, b, rfl, hl, hx, hq⟩ := h
    refine ⟨_, pss_one (ps_ret (pe_lc (own := [("number", 2)]) (g := gName 2) (tt := tYes) rfl S.nd (pi_list (pv 0)) (blkOk_by (N := ["numbers", "bound", "number"]) (sc := d_at_most.scope) (by decide +kernel))
        (fun _ _ _ _ _ => pg_name (i := 2) S.nd rfl (Or.inl rfl)) (fun _ _ _ _ _ => pts_nil) (fun _ _ _ _ _ => pe_cmpR op_le (pv 2) (pv 1) (nomark _)))), ?_⟩
    refine ⟨_, rfl, l, rfl, ⟨_, SqL.of hl⟩, fun D hD => ?_⟩
    refine lc_list (xs := iV xs) (fun i H' => Same H H' ∧ H' D = some (.lst ((xs.take i).map fun x => V.bl (decide (x ≤ b))))) ⟨same_new hD, upd_same⟩ (fun i H' _ ⟨b, _⟩ => SqL.of (b _ _ hl)) (fun i x H' hx' ⟨b1, b2⟩ => ?_) (fun H' ⟨b1, b2⟩ => ?_)
    · have hi : i < xs.length := by
        have := (List.getElem?_eq_some_iff.mp hx').1
        simpa using this
      rw [iat hi] at hx'
      obtain rfl := (Option.some.inj hx').symm
      refine ⟨rfl, ?_⟩
      refine ⟨_, rfl, _, rfl, _, _, rfl, rfl, ?_⟩
      refine ⟨_, b2, ?_, fun q' o hh => (upd_ne (ne_of_none hh hD)).trans (b1 q' o hh), ?_⟩
      · refine small1000 ?_
        rw [List.length_map, List.length_take]
        omega
      · have e : gi xs i = xs[i] := by
          have := gi_at hi
          rw [List.getElem?_eq_getElem hi] at this
          exact (Option.some.inj this).symm
        rw [upd_same, List.take_succ_eq_append_getElem hi, List.map_append, List.map_cons, List.map_nil, e]
    · rw [iV_len, List.take_length] at b2
      exact hq H' D b1 b2
/-- count_small -/
def spCntS : Sp := fun vs H Q _ => ∃ (l : Addr) (xs : List Int) (b : Int) (p : Nat), vs = [.ref l, .int b, .int (p : Nat)] ∧ H l = some (.lst (iV xs)) ∧ xs.length ≤ 1000 ∧ p ≤ xs.length ∧ ∀ H', Same H H' → Q (.int (cnt xs b p : Nat)) H'
theorem ok_count_small (t : Tx K mg base) : Okd P w K mg base 2 d_count_small ["numbers", "bound", "place"] spCntS := by
  have S : FnScope ["numbers", "bound", "place", "small"] ["numbers", "bound", "place"] d_count_small.scope := ⟨rfl, rfl, rfl, by decide +kernel, rfl, by decide +kernel, by decide +kernel⟩
  have G1 : Okd P w K mg base 1 d_at_most ["numbers", "bound"] spAtM := ok_at_most t
  refine okd_of t 19 rfl S rfl rfl (fun _ _ _ _ _ _ us hl => match us, hl with | [_, _, _], _ => rfl) (fun vs H Q E h => ?_) fun cdv A outer s H vs Q E hr h => ?_
  · obtain ⟨_, _, _, _, rfl, _⟩ := h
    rfl
  · obtain ⟨l, xs, b, p, rfl, hl, hx, hp, hq⟩ := h
    refine ⟨_, pss_one (ps_ret (pe_callB (cr_sum rfl) (by rfl) t.sum (by decide +kernel) (pa_cons (pe_lc (own := [("small", 3)]) (g := gName 3) rfl S.nd (pi_list (pe_cl G1 hr (by rfl) (t.g 13) (pa_cons (pe_slice sl_list (pv 0) po_none (po_some (pv 2))) (pa_cons (pv 1) pa_nil)))) (blkOk_by (N := ["numbers", "bound", "place", "small"]) (sc := d_count_small.scope) (by decide +kernel))
        (fun _ _ _ _ _ => pg_name (i := 3) S.nd rfl (Or.inl rfl)) (fun _ _ _ _ _ => pts_one (pt_val (pv 3))) (fun _ _ _ _ _ => pe_int)) pa_nil))), ?_⟩
    refine ⟨_, rfl, _, rfl, _, rfl, l, _, rfl, SqL.of hl, fun q hq' => ?_⟩
    rw [cut_take hp]
    have s1 : Same H (upd H q (.lst (iV (xs.take p)))) := same_new hq'
    have ly : (xs.take p).length ≤ 1000 := by
      rw [List.length_take]
      omega
    refine ⟨_, rfl, q, xs.take p, b, rfl, upd_same, ly, fun H2 r s2 hr2 => ?_⟩
    refine ⟨r, rfl, ⟨_, SqL.of hr2⟩, fun D hD => ?_⟩
    generalize ey : xs.take p = ys at hr2 ly
    refine lc_list (xs := ys.map fun x => V.bl (decide (x ≤ b))) (fun i H' => Same H2 H' ∧ H' D = some (.lst (iV (List.replicate (((ys.take i).filter fun x => decide (x ≤ b)).length) 1)))) ⟨same_new hD, upd_same⟩ (fun i H' _ ⟨b, _⟩ => SqL.of (b _ _ hr2)) (fun i x H' hx' ⟨b1, b2⟩ => ?_) (fun H' ⟨b1, b2⟩ => ?_)
    · have hi : i < ys.length := by
        have := (List.getElem?_eq_some_iff.mp hx').1
        simpa using this
      rw [List.getElem?_map, List.getElem?_eq_getElem hi] at hx'
      obtain rfl := (Option.some.inj hx').symm
      refine ⟨rfl, ?_⟩
      refine ⟨_, rfl, _, rfl, ?_⟩
      have et : ys.take (i + 1) = ys.take i ++ [ys[i]] := List.take_succ_eq_append_getElem hi
      refine ite2 (fun z => ?_) (fun z => ?_)
      · refine ⟨_, b2, ?_, fun q' o hh => (upd_ne (ne_of_none hh hD)).trans (b1 q' o hh), ?_⟩
        · refine small1000 ?_
          rw [iV_len, List.length_replicate]
          have := List.length_filter_le (fun x => decide (x ≤ b)) (ys.take i)
          rw [List.length_take] at this
          omega
        · rw [upd_same, et, List.filter_append, List.filter_cons_of_pos (p := fun x => decide (x ≤ b)) z, List.filter_nil, List.length_append, List.length_singleton, List.replicate_succ', iV, iV, List.map_append]
          rfl
      · refine ⟨b1, ?_⟩
        rw [b2, et, List.filter_append, List.filter_cons_of_neg (p := fun x => decide (x ≤ b)) z, List.filter_nil, List.append_nil]
    · rw [List.length_map, List.take_length] at b2
      refine ⟨D, _, rfl, SqL.of b2, ?_⟩
      rw [sum_ones]
      have := hq H' (s1.trans (s2.trans b1))
      unfold cnt at this
      rw [ey] at this
      exact this
/-- is_gap -/
def spGap : Sp := fun vs H Q _ => ∃ (l l' : Addr) (xs ys : List Int) (b : Int) (p : Nat), vs = [.ref l, .ref l', .int b, .int (p : Nat)] ∧ H l = some (.lst (iV xs)) ∧ H l' = some (.lst (iV ys)) ∧ xs.length ≤ 1000 ∧ ys.length = xs.length ∧ p ≤ xs.length ∧
  ∀ H', Same H H' → Q (.bl (decide (cnt xs b p < cnt ys b p))) H'
theorem ok_is_gap (t : Tx K mg base) : Okd P w K mg base 3 d_is_gap ["one", "two", "bound", "place"] spGap := by
  have G1 : Okd P w K mg base 2 d_count_small ["numbers", "bound", "place"] spCntS := ok_count_small t
  refine okd_of t 20 rfl (N := ["one", "two", "bound", "place"]) ⟨rfl, rfl, rfl, by decide +kernel, rfl, by decide +kernel, by decide +kernel⟩ rfl rfl (fun _ _ _ _ _ _ us hl => match us, hl with | [_, _, _, _], _ => rfl) (fun vs H Q E h => ?_) fun cdv A outer s H vs Q E hr h => ?_
  · obtain ⟨_, _, _, _, _, _, rfl, _⟩ := h
    rfl
  · obtain ⟨l, l', xs, ys, b, p, rfl, hl, hl', hx, hy, hp, hq⟩ := h
    refine ⟨_, pss_one (ps_ret (pe_cmpR op_lt (pe_cl G1 hr (by rfl) (t.g 14) (pa_cons (pv 0) (pa_cons (pv 2) (pa_cons (pv 3) pa_nil)))) (pe_cl G1 hr (by rfl) (t.g 14) (pa_cons (pv 1) (pa_cons (pv 2) (pa_cons (pv 3) pa_nil)))) (nomark _))), ?_⟩
    refine ⟨_, rfl, _, rfl, _, rfl, l, xs, b, p, rfl, hl, hx, hp, fun H1 s1 => ?_⟩
    refine ⟨_, rfl, _, rfl, _, rfl, l', ys, b, p, rfl, s1 _ _ hl', by omega, by omega, fun H2 s2 => ?_⟩
    refine ⟨_, _, rfl, rfl, ?_⟩
    have := hq H2 (s1.trans s2)
    show Q (V.bl (decide (((cnt xs b p : Nat) : Int) < ((cnt ys b p : Nat) : Int)))) H2
    rw [show decide (((cnt xs b p : Nat) : Int) < ((cnt ys b p : Nat) : Int)) = decide (cnt xs b p < cnt ys b p) from decide_eq_decide.mpr (by omega)]
    exact this
end
end Nw
end
section
/-! Promises: first_gap, dominates, is_ascending, sorts. -/
namespace Nw
open PySem PySem.Spec PyProof.Rows L2 ClX
/-- a list made of zip's pairs -/
theorem lc_zip {K : PySem.W.Frag} {a b : Addr} {xs ys : List V} {g : TG} {tt : TT} {te : TE} {vs : List Nat} {σ : L2.St} {H1 : Hp} {D : Addr} {Qd : Hp → Prop} (Pv : Nat → Hp → Prop) (h0 : Pv 0 (upd H1 D (.lst []))) (hl : ∀ i H, Pv i H → SqL K H a xs ∧ SqL K H b ys)
    (hs : ∀ i x y T H, xs[i]? = some x → ys[i]? = some y → Pv i H → H T = none → g (.ref T) (wipe σ vs) (upd H T (.tup [x, y])) fun σ2 H2 => wipe σ2 vs = wipe σ vs ∧ tt σ2 H2 fun b H3 =>
      if b = true then te σ2 H3 fun y H4 => ∃ acc, H4 D = some (.lst acc) ∧ acc.length < sizeLine ∧ Pv (i + 1) (upd H4 D (.lst (acc ++ [y]))) else Pv (i + 1) H3) (hd : ∀ H, Pv (min xs.length ys.length) H → Qd H) :
    ∃ W : Nat → Nat → Hp → Prop, (∃ m, W 0 m (upd H1 D (.lst []))) ∧ ∀ i m H, W i m H →
      ((Itz K a b).stop i H ∧ Qd H) ∨ ((Itz K a b).go i H ∧ ∃ Nx : Hp → Prop, (∀ H', Nx H' → ∃ m', m' < m ∧ W (i + 1) m' H') ∧ ∀ x H', (Itz K a b).yld i H x H' → g x (wipe σ vs) H' fun σ2 H2 => wipe σ2 vs = wipe σ vs ∧ tt σ2 H2 fun b H3 =>
        if b = true then te σ2 H3 fun y H4 => ∃ acc, H4 D = some (.lst acc) ∧ acc.length < sizeLine ∧ Nx (upd H4 D (.lst (acc ++ [y]))) else Nx H3) := by
  refine ⟨fun i m H => m = min xs.length ys.length - i ∧ i ≤ min xs.length ys.length ∧ Pv i H, ⟨_, rfl, Nat.zero_le _, h0⟩, ?_⟩
  rintro i m H ⟨rfl, hi, p⟩
  obtain ⟨q1, q2⟩ := hl i H p
  by_cases hlt : i < min xs.length ys.length
  · refine .inr ⟨⟨xs, ys, _, _, q1, q2, List.getElem?_eq_getElem (by omega), List.getElem?_eq_getElem (by omega)⟩, Pv (i + 1), fun H' p' => ⟨min xs.length ys.length - (i + 1), by omega, rfl, hlt, p'⟩, fun x H' y => ?_⟩
    obtain ⟨T, x', y', rfl, hT, rfl, f1, f2⟩ := y
    exact hs i x' y' T H (f1 xs q1) (f2 ys q2) p hT
  · have e : i = min xs.length ys.length := by omega
    subst e
    exact .inl ⟨⟨xs, ys, q1, q2, by omega⟩, hd H p⟩
theorem cut_drop (xs : List Int) : cutV (iV xs) (some 1) none = iV (xs.drop 1) := by
  unfold cutV
  rw [HT.sIx_none, show HT.sIx (iV xs).length 0 (some 1) = min 1 (iV xs).length from HT.sIx_nat _ _ 1, iV_len, List.take_of_length_le (by rw [List.length_drop, iV_len]; omega)]
  cases xs with
  | nil => rfl
  | cons x r =>
    rw [show min 1 (x :: r).length = 1 by simp, ← List.map_drop]
section
variable {P : Program} {w : World} {K : PySem.W.Frag} {mg : Str → Option Value} {base : Heap}
/-- first_gap -/
def spFGap : Sp := fun vs H Q _ => ∃ (l l' : Addr) (xs ys : List Int), vs = [.ref l, .ref l'] ∧ H l = some (.lst (iV xs)) ∧ H l' = some (.lst (iV ys)) ∧ xs.length ≤ 1000 ∧ ys.length = xs.length ∧
  (∀ H', Same H H' → noGap xs ys → Q .non H') ∧ ∀ H' p, Same H H' → ¬ noGap xs ys → Q (.ref p) H'
theorem ok_first_gap (t : Tx K mg base) : Okd P w K mg base 4 d_first_gap ["one", "two"] spFGap := by
  have S : FnScope ["one", "two", "bound", "place"] ["one", "two"] d_first_gap.scope := ⟨rfl, rfl, rfl, by decide +kernel, rfl, by decide +kernel, by decide +kernel⟩
  have G1 : Okd P w K mg base 3 d_is_gap ["one", "two", "bound", "place"] spGap := ok_is_gap t
  refine okd_of t 21 rfl S rfl rfl (fun _ _ _ _ _ _ us hl => match us, hl with | [_, _], _ => rfl) (fun vs H Q E h => ?_) fun cdv A outer s H vs Q E hr h => ?_
  · obtain ⟨_, _, _, _, rfl, _⟩ := h
    rfl
  · obtain ⟨l, l', xs, ys, rfl, hl, hl', hx, hy, hq1, hq2⟩ := h
    refine ⟨_, pss_cons (ps_for PassesOwn.leaving rfl (pi_range2 (by rfl) t.range (pa_cons pe_int (pa_cons (pe_callB call_len_seq (by rfl) t.len PySem.boot_len (pa_cons (pv 0) pa_nil)) pa_nil))) (pg_name (i := 2) S.nd rfl (Or.inl rfl))
      (pss_one (ps_for PassesOwn.leaving rfl (pi_range2 (by rfl) t.range (pa_cons pe_int (pa_cons (pe_callB call_len_seq (by rfl) t.len PySem.boot_len (pa_cons (pv 0) pa_nil)) pa_nil))) (pg_name (i := 3) S.nd rfl (Or.inl rfl))
        (pss_one (ps_if (pt_val (pe_cl G1 hr (by rfl) (t.g 15) (pa_cons (pv 0) (pa_cons (pv 1) (pa_cons (pv 2) (pa_cons (pv 3) pa_nil)))))) (pss_one (ps_ret (pe_tup (pa_cons (pv 2) (pa_cons (pv 3) pa_nil))))) pss_nil)))))
      (pss_one (ps_ret pe_non)), ?_⟩
    refine ⟨_, rfl, l, _, rfl, .inl (SqL.of hl), 1, _, rfl, by rw [iV_len]; omega, ?_⟩
    rw [iV_len]
    refine for_range (n := ((xs.length : Int) - 1).toNat) (fun i σ H' => (∃ u v, σ = [some (.ref l), some (.ref l'), u, v]) ∧ Same H H' ∧ ∀ b p : Nat, 1 ≤ b → b ≤ i → 1 ≤ p → p < xs.length → ¬ cnt xs (b : Nat) p < cnt ys (b : Nat) p) ⟨⟨_, _, rfl⟩, Same.refl _, fun b p h1 h2 => absurd h2 (by omega)⟩ (fun i σ H1 hi ⟨⟨u, v, es⟩, b1, b2⟩ => ?_) (fun σ H1 ⟨⟨u, v, es⟩, b1, b2⟩ => ?_)
    · subst es
      refine ⟨_, rfl, l, _, rfl, .inl (SqL.of (b1 _ _ hl)), 1, _, rfl, by rw [iV_len]; omega, ?_⟩
      rw [iV_len]
      have ei : (1 : Int) + (i : Nat) = ((i + 1 : Nat) : Int) := by omega
      rw [ei]
      refine for_range (n := ((xs.length : Int) - 1).toNat) (fun j σ H' => (∃ v, σ = [some (.ref l), some (.ref l'), some (.int ((i + 1 : Nat) : Int)), v]) ∧ Same H H' ∧ ∀ p : Nat, 1 ≤ p → p ≤ j → ¬ cnt xs ((i + 1 : Nat) : Int) p < cnt ys ((i + 1 : Nat) : Int) p) ⟨⟨_, rfl⟩, b1, fun p h1 h2 => absurd h2 (by omega)⟩ (fun j σ H2 hj ⟨⟨v', es⟩, c1, c2⟩ => ?_) (fun σ H2 ⟨⟨v', es⟩, c1, c2⟩ => ?_)
      · subst es
        have ej : (1 : Int) + (j : Nat) = ((j + 1 : Nat) : Int) := by omega
        rw [ej]
        refine ⟨_, rfl, _, rfl, _, rfl, _, rfl, l, l', xs, ys, _, j + 1, rfl, c1 _ _ hl, c1 _ _ hl', hx, hy, by omega, fun H3 s3 => ?_⟩
        refine ⟨_, rfl, ?_⟩
        refine ite2 (fun z => ?_) (fun z => ?_)
        · refine ⟨_, rfl, _, rfl, (by show 2 ≤ sizeLine; decide), fun p hp => ?_⟩
          exact hq2 _ p ((c1.trans s3).trans (same_new hp)) fun ng => ng (i + 1) (j + 1) (by omega) (by omega) (by omega) (by omega) (of_decide_eq_true z)
        · refine ⟨⟨_, rfl⟩, c1.trans s3, fun p h1 h2 => ?_⟩
          rcases Nat.lt_or_eq_of_le h2 with h3 | h3
          · exact c2 p h1 (by omega)
          · subst h3
            exact fun z' => z (decide_eq_true z')
      · subst es
        refine ⟨⟨_, _, rfl⟩, c1, fun b p h1 h2 h3 h4 => ?_⟩
        rcases Nat.lt_or_eq_of_le h2 with h5 | h5
        · exact b2 b p h1 (by omega) h3 h4
        · subst h5
          exact c2 p h3 (by omega)
    · exact hq1 H1 b1 fun b p h1 h2 h3 h4 => b2 b p h1 (by omega) h3 h4
/-- dominates -/
def spDom (K : PySem.W.Frag) : Sp := fun vs H Q _ => ∃ (a a' : Addr) (W : Nat) (st st' : List Nat), vs = [.ref a, .ref a'] ∧ Net K H a W st ∧ Net K H a' W st' ∧ OkN W st ∧ OkN W st' ∧
  ∀ H' b, Same H H' → (b = true ↔ noGap (res st (desc W)) (res st' (desc W))) → Q (.bl b) H'
theorem ok_dominates (t : Tx K mg base) : Okd P w K mg base 5 d_dominates ["first", "second"] (spDom K) := by
  have G1 : Okd P w K mg base 4 d_check_widths ["first", "second"] (spChkW K) := okd_mono (ok_check_widths t) (by decide)
  have G2 : Okd P w K mg base 4 d_first_gap ["one", "two"] spFGap := ok_first_gap t
  have G3 : Okd P w K mg base 4 d_profile ["network"] (spProf K) := okd_mono (ok_profile t) (by decide)
  refine okd_of t 22 rfl (N := ["first", "second"]) ⟨rfl, rfl, rfl, by decide +kernel, rfl, by decide +kernel, by decide +kernel⟩ rfl rfl (fun _ _ _ _ _ _ us hl => match us, hl with | [_, _], _ => rfl) (fun vs H Q E h => ?_) fun cdv A outer s H vs Q E hr h => ?_
  · obtain ⟨_, _, _, _, _, rfl, _⟩ := h
    rfl
  · obtain ⟨a, a', W, st, st', rfl, n, n', ok, ok', hq⟩ := h
    refine ⟨_, pss_cons (ps_expr (pe_cl G1 hr (by rfl) (t.g 4) (pa_cons (pv 0) (pa_cons (pv 1) pa_nil))))
      (pss_one (ps_ret (pe_cmpR op_isN (pe_cl G2 hr (by rfl) (t.g 16) (pa_cons (pe_cl G3 hr (by rfl) (t.g 12) (pa_cons (pv 0) pa_nil)) (pa_cons (pe_cl G3 hr (by rfl) (t.g 12) (pa_cons (pv 1) pa_nil)) pa_nil))) pe_non (nomark _)))), ?_⟩
    refine ⟨_, rfl, _, rfl, a, a', W, st, st', rfl, n, n', ?_⟩
    refine ⟨_, rfl, a, W, st, rfl, n, ok, fun H1 p s1 hp => ?_⟩
    refine ⟨_, rfl, a', W, st', rfl, n'.same s1, ok', fun H2 p' s2 hp' => ?_⟩
    have l1 : (res st (desc W)).length = W := by rw [res_len, desc_len]
    have l2 : (res st' (desc W)).length = W := by rw [res_len, desc_len]
    have := ok.hi
    refine ⟨p, p', _, _, rfl, s2 _ _ hp, hp', by omega, by omega, fun H3 s3 ng => ?_, fun H3 q s3 ng => ?_⟩
    · exact ⟨rfl, hq H3 _ (s1.trans (s2.trans s3)) ⟨fun _ => ng, fun _ => rfl⟩⟩
    · exact ⟨rfl, hq H3 _ (s1.trans (s2.trans s3)) ⟨fun z => absurd (of_decide_eq_true z) (fun z => nomatch z), fun z => absurd z ng⟩⟩
end
end Nw
end
section
/-! Promises: is_ascending, sorts, check_width_counting. -/
namespace Nw
open PySem PySem.Spec PyProof.Rows L2 ClX
theorem gi_get {xs : List Int} {i : Nat} (h : i < xs.length) : gi xs i = xs[i] := by
  have := gi_at h
  rw [List.getElem?_eq_getElem h] at this
  exact (Option.some.inj this).symm
section
variable {P : Program} {w : World} {K : PySem.W.Frag} {mg : Str → Option Value} {base : Heap}
/-- is_ascending -/
def spAsc : Sp := fun vs H Q _ => ∃ (l : Addr) (xs : List Int), vs = [.ref l] ∧ H l = some (.lst (iV xs)) ∧ xs.length ≤ 1000 ∧ ∀ H', Same H H' → Q (.bl (asc xs)) H'
theorem ok_is_ascending (t : Tx K mg base) : Okd P w K mg base 1 d_is_ascending ["values"] spAsc := by
  have S : FnScope ["values", "left", "right"] ["values"] d_is_ascending.scope := ⟨rfl, rfl, rfl, by decide +kernel, rfl, by decide +kernel, by decide +kernel⟩
  refine okd_of t 25 rfl S rfl rfl (fun _ _ _ _ _ _ us hl => match us, hl with | [_], _ => rfl) (fun vs H Q E h => ?_) fun cdv A outer s H vs Q E hr h => ?_
  · obtain ⟨_, _, rfl, _⟩ := h
    rfl
  · obtain ⟨l, xs, rfl, hl, hx, hq⟩ := h
    refine ⟨_, pss_one (ps_ret (pe_callB (cr_all rfl) (by rfl) t.all (by decide +kernel) (pa_cons (pe_lc (own := [("left", 1), ("right", 2)]) (tt := tYes) rfl S.nd (RZ.pi_zipA (by rfl) t.zip (pa_cons (pv 0) (pa_cons (pe_slice sl_list (pv 0) (po_some pe_int) po_none) pa_nil)))
      (blkOk_by (N := ["values", "left", "right"]) (sc := d_is_ascending.scope) (by decide +kernel))
      (fun _ _ _ _ _ => pg_tupK (K := K) (n := 2) (by rfl) (pgs_cons (pg_name (i := 1) S.nd rfl (Or.inl rfl)) (pgs_cons (pg_name (i := 2) S.nd rfl (Or.inl rfl)) pgs_nil))) (fun _ _ _ _ _ => pts_nil) (fun _ _ _ _ _ => pe_cmpR op_le (pv 1) (pv 2) (nomark _))) pa_nil))), ?_⟩
    refine ⟨_, rfl, _, rfl, _, rfl, l, _, rfl, SqL.of hl, fun q hq' => ?_⟩
    rw [cut_drop]
    have s1 : Same H (upd H q (.lst (iV (xs.drop 1)))) := same_new hq'
    refine ⟨l, q, _, _, rfl, .inl ⟨SqL.of (s1 _ _ hl), SqL.of upd_same, fun D hD => ?_⟩⟩
    have s2 := same_new (o := .lst []) hD
    refine lc_zip (xs := iV xs) (ys := iV (xs.drop 1)) (fun i H' => Same H H' ∧ H' l = some (.lst (iV xs)) ∧ H' q = some (.lst (iV (xs.drop 1))) ∧ H' D = some (.lst ((((xs.zip (xs.drop 1)).take i).map fun p => decide (p.1 ≤ p.2)).map V.bl)))
      ⟨s1.trans s2, s2 _ _ (s1 _ _ hl), s2 _ _ upd_same, upd_same⟩ (fun i H' ⟨_, b1, b2, _⟩ => ⟨SqL.of b1, SqL.of b2⟩) (fun i x y T H' hx' hy' ⟨b0, b1, b2, b3⟩ hT => ?_) (fun H' ⟨b0, b1, b2, b3⟩ => ?_)
    · have hi : i < xs.length := by
        have := (List.getElem?_eq_some_iff.mp hx').1
        simpa using this
      have hi2 : i < (xs.drop 1).length := by
        have := (List.getElem?_eq_some_iff.mp hy').1
        simpa using this
      rw [iat hi] at hx'
      rw [iat hi2] at hy'
      obtain rfl := (Option.some.inj hx').symm
      obtain rfl := (Option.some.inj hy').symm
      have sT : Same H' (upd H' T (.tup [V.int (gi xs i), V.int (gi (xs.drop 1) i)])) := same_new hT
      have hDT : D ≠ T := ne_of_none b3 hT
      refine ⟨T, _, rfl, SqT.of upd_same, rfl, _, _, rfl, _, _, rfl, rfl, rfl, ?_⟩
      refine ⟨_, rfl, _, rfl, _, _, rfl, rfl, ?_⟩
      have fD : H D = none := s1.free hD
      have nlD : l ≠ D := ne_of_none hl fD
      have nqD : q ≠ D := ne_of_none upd_same hD
      refine ⟨_, (upd_ne hDT).trans b3, ?_, fun q' o hh => (upd_ne (ne_of_none hh fD)).trans (sT _ _ (b0 q' o hh)), (upd_ne nlD).trans (sT _ _ b1), (upd_ne nqD).trans (sT _ _ b2), ?_⟩
      · refine small1000 ?_
        rw [List.length_map, List.length_map, List.length_take, List.length_zip]
        omega
      · have hz : i < (xs.zip (xs.drop 1)).length := by
          rw [List.length_zip]
          omega
        rw [upd_same, List.take_succ_eq_append_getElem hz, List.map_append, List.map_append, List.map_cons, List.map_nil, List.map_cons, List.map_nil, List.getElem_zip, gi_get hi, gi_get hi2]
    · rw [iV_len, iV_len, ← List.length_zip, List.take_length] at b3
      refine ⟨D, _, rfl, SqL.of b3, ?_⟩
      have := hq H' b0
      unfold asc at this
      rw [List.all_map]
      exact this
/-- sorts -/
def spSorts (K : PySem.W.Frag) : Sp := fun vs H Q _ => ∃ (a l : Addr) (W : Nat) (st : List Nat) (xs : List Int), vs = [.ref a, .ref l] ∧ Net K H a W st ∧ OkN W st ∧ H l = some (.lst (iV xs)) ∧ xs.length = W ∧
  ∀ H', Same H H' → Q (.bl (asc (res st xs))) H'
theorem ok_sorts (t : Tx K mg base) : Okd P w K mg base 5 d_sorts ["network", "values"] (spSorts K) := by
  have G : Okd P w K mg base 4 d_run ["network", "values"] (spRun (K := K)) := ok_run t
  have G2 : Okd P w K mg base 4 d_is_ascending ["values"] spAsc := okd_mono (ok_is_ascending t) (by decide)
  refine okd_of t 26 rfl (N := ["network", "values"]) ⟨rfl, rfl, rfl, by decide +kernel, rfl, by decide +kernel, by decide +kernel⟩ rfl rfl (fun _ _ _ _ _ _ us hl => match us, hl with | [_, _], _ => rfl) (fun vs H Q E h => ?_) fun cdv A outer s H vs Q E hr h => ?_
  · obtain ⟨_, _, _, _, _, rfl, _⟩ := h
    rfl
  · obtain ⟨a, l, W, st, xs, rfl, n, ok, hl, hx, hq⟩ := h
    refine ⟨_, pss_one (ps_ret (pe_cl G2 hr (by rfl) (t.g 20) (pa_cons (pe_cl G hr (by rfl) (t.g 9) (pa_cons (pv 0) (pa_cons (pv 1) pa_nil))) pa_nil))), ?_⟩
    refine ⟨_, rfl, _, rfl, a, l, W, st, xs, rfl, n, ok, hl, hx, fun H1 p s1 hp => ?_⟩
    have := ok.hi
    exact ⟨p, _, rfl, hp, by rw [res_len]; omega, fun H2 s2 => hq H2 (s1.trans s2)⟩
/-- counting.check_width -/
def spChkC (K : PySem.W.Frag) : Sp := fun vs H Q _ => ∃ (a : Addr) (W : Nat) (st : List Nat) (m : Int), vs = [.ref a, .int m] ∧ Net K H a W st ∧ (W : Int) ≤ m ∧ Q .non H
theorem ok_check_width_counting (t : Tx K mg base) : Okd P w K mg base 3 d_check_width_counting ["network", "most"] (spChkC K) := by
  refine okd_of t 30 rfl (N := ["network", "most"]) ⟨rfl, rfl, rfl, by decide +kernel, rfl, by decide +kernel, by decide +kernel⟩ rfl rfl (fun _ _ _ _ _ _ us hl => match us, hl with | [_, _], _ => rfl) (fun vs H Q E h => ?_) fun cdv A outer s H vs Q E hr h => ?_
  · obtain ⟨_, _, _, _, rfl, _⟩ := h
    rfl
  · obtain ⟨a, W, st, m, rfl, ⟨dx, tp, n1, _⟩, hm, hq⟩ := h
    refine ⟨_, pss_one (ps_if (pt_cmpR op_gt (pe_width t (pv 0) (hr.mono (by decide))) (pv 1) (nomark _)) (pss_one ps_never) pss_nil), ?_⟩
    refine ⟨_, rfl, net_w n1 ⟨_, rfl, _, _, rfl, rfl, _, rfl, ?_⟩⟩
    exact ite2 (fun z => absurd (of_decide_eq_true z) (by omega)) fun _ => hq
end
end Nw
end
section
/-! t[::-1] of a tuple. -/
namespace Nw
open PySem PySem.Spec PyProof.Rows L2
theorem rev_pick (xs : Array Value) : ((List.range xs.size).filterMap fun (m : Nat) => xs[(((xs.size : Nat) : Int) - 1 + (m : Int) * -1).toNat]?).toArray = xs.toList.reverse.toArray := by
  congr 1
  have e : ∀ n : Nat, n ≤ xs.size → (List.range n).filterMap (fun (m : Nat) => xs[(((xs.size : Nat) : Int) - 1 + (m : Int) * -1).toNat]?) = xs.toList.reverse.take n := by
    intro n
    induction n with
    | zero => intro _; rfl
    | succ n ih =>
      intro h
      have hn : n < xs.toList.reverse.length := by simp; omega
      rw [List.range_succ, List.filterMap_append, ih (by omega), List.take_succ_eq_append_getElem hn]
      have e1 : (((xs.size : Nat) : Int) - 1 + (n : Int) * -1).toNat = xs.size - 1 - n := by omega
      congr 1
      rw [List.filterMap_cons, List.filterMap_nil, e1, List.getElem_reverse]
      have : xs.size - 1 - n < xs.size := by omega
      rw [Array.getElem?_eq_getElem this]
      simp
  have := e xs.size (Nat.le_refl _)
  rw [this, List.take_of_length_le (by simp)]
section
variable {prog : Program} {w : World} {A : Around} {E : Value → Shared → Prop} {s : Shared}
theorem sliceApplied_rev {sl : Addr} {t : Tok} {n : Nat} {Q : Int × Int × Nat → Shared → Prop} (hs : s.heap.IsSliceOf sl .none .none (.int (-1) t)) (h : Q ((n : Int) - 1, -1, n) s) :
    wpAny (model prog w) A (Builtin.Slice.sliceApplied (.ref sl) (pure (n : Int))) Q E s := by
  obtain ⟨os, hos, hcs, hds⟩ := id hs
  unfold Builtin.Slice.sliceApplied Builtin.Slice.sliceFields
  refine wpAny_bind (wpAny_bind (wpAny_field hos hds (x := .none) rfl (wpAny_bind (wpAny_field hos hds (x := .none) rfl (wpAny_bind (wpAny_field hos hds (x := .int (-1) t) rfl (wpAny_pure ?_)))))))
  refine wpAny_bind (HT.slicePart_ (.int (-1) t) ?_)
  show wpAny _ _ (if ((-1 : Int) == 0) = true then _ else _) _ _ s
  rw [if_neg (by decide)]
  refine wpAny_bind (HT.slicePart_ .none (wpAny_bind (HT.slicePart_ .none (wpAny_bind (wpAny_pure ?_)))))
  show wpAny _ _ (pure ((n : Int) - 1, (-1 : Int), Builtin.Slice.slicePlaces ((n : Int) - 1) (-1) (-1))) _ _ s
  have e : Builtin.Slice.slicePlaces ((n : Int) - 1) (-1) (-1) = n := by
    unfold Builtin.Slice.slicePlaces
    rw [if_neg (by decide)]
    by_cases c : (n : Int) - 1 > -1
    · rw [if_pos c]
      have : ((n : Int) - 1 - -1 - 1) / - -1 = (n : Int) - 1 := by
        rw [show (n : Int) - 1 - -1 - 1 = (n : Int) - 1 by omega, show (- -1 : Int) = 1 from rfl, Int.ediv_one]
      rw [this]
      omega
    · rw [if_neg c]
      omega
  rw [e]
  exact wpAny_pure h
theorem getItem_tuple_rev {t sl : Addr} {items : Array Value} {tk : Tok} {Q : Value → Shared → Prop} (ht : IsTup s.heap t items) (hs : s.heap.IsSliceOf sl .none .none (.int (-1) tk))
    (h : Q (.ref s.heap.objs.size) { s with heap := s.heap.push { cls := .type "tuple", data := .seq items.toList.reverse.toArray } })
    (hsz : items.size ≤ sizeLine) : wpAny (model prog w) A (getItem (.ref t) (.ref sl)) Q E s := by
  have htake : sizeOk (.seq items.toList.reverse.toArray) := by
    show items.toList.reverse.toArray.size ≤ sizeLine
    rw [List.size_toArray, List.length_reverse, Array.length_toList]
    exact hsz
  obtain ⟨os, hos, hcs, hds⟩ := id hs
  have hTs : s.TypeIs (.ref sl) "slice" := ⟨os, hos, hcs⟩
  unfold getItem
  try with_reducible refine wpAny_holding ?_
  first | refine wpAny_bind (wpAny_pure ?_) | skip
  refine wpAny_bind (wpAny_sequenceKey ht.typeIs (by decide) ?_)
  refine wpAny_bind (wpAny_callSpecial?_slot (name := Str.ofString "__getitem__") ht.typeIs PyProof.Rows.slot_tuple_getitem
    (wpAny_call_entry PyProof.Rows.slot_tuple_getitem ht.typeIs PyProof.Rows.entry_tuple_getitem ?_ (PyProof.Rows.args_tuple_getitem _ _)))
  show wpAny _ _ (Builtin.Tuple.tupleItemsOf (.ref t) >>= _) _ _ s
  refine wpAny_bind (PyProof.Rows.tupleItemsOf_ ht ?_)
  refine wpAny_bind (wpAny_typeOf hTs ?_)
  rw [if_pos (by decide)]
  refine wpAny_bind (sliceApplied_rev hs ?_)
  show wpAny _ _ (if (((items.size : Nat) : Int) - 1 == 0 && (-1 : Int) == 1 && items.size == items.size) = true then _ else _) _ _ s
  rw [if_neg (by simp), rev_pick]
  first
    | exact wpAny_bind (m := Builtin.Tuple.tupleExact _) (wpAny_newObj_type (wpAny_pure ⟨_, rfl, wpAny_pure h⟩) htake)
    | exact wpAny_bind (m := Builtin.Tuple.tupleExact _) (wpAny_newObj_type (wpAny_bind (wpAny_pure (wpAny_pure ⟨_, rfl, wpAny_pure h⟩))) htake)
    | exact wpAny_bind (wpAny_bind (m := Builtin.Tuple.tupleExact _) (wpAny_newObj_type (wpAny_pure (wpAny_pure ⟨_, rfl, wpAny_pure h⟩)) htake))
    | exact wpAny_bind (wpAny_bind (m := Builtin.Tuple.tupleExact _) (wpAny_newObj_type (wpAny_pure ⟨_, rfl, wpAny_pure h⟩) htake))
end
def tRevT (K : PySem.W.Frag) (te : TE) : TE := fun σ H Q => te σ H fun x H1 => ∃ a xs, x = .ref a ∧ SqT K H1 a xs ∧ ∀ p, H1 p = none → Q (.ref p) (upd H1 p (.tup xs.reverse))
theorem pe_revT {X : Cx} {e : Expr} {te : TE} {k : Nat} {p1 p2 p3 pos : Pos} (he : PE X e te) : PE X (.Subscript e (.Slice none none (some (.UnaryOp .USub (.Constant (.int 1) k p1) p2)) p3) pos) (tRevT X.K te) := by
  refine ⟨fun pins s σ H Q I h => ?_⟩
  refine Subscript_ (thn (he.run pins s σ H _ I h) fun v s1 ⟨x, H1, I1, r1, q1⟩ => ?_)
  obtain ⟨a, xs, ex, hx, q⟩ := q1
  subst ex
  cases r1
  have hst : PO X (some (.UnaryOp .USub (.Constant (.int 1) k p1) p2)) (tPart (tUn (rU fun i => .int (-i)) (tC (.int 1)))) := po_some (pe_un un_neg pe_int)
  refine wpAny_Slice (thn (po_none.run pins s1 σ H1 (fun o H2 => o = none ∧ H2 = H1) I1 ⟨rfl, rfl⟩) fun vl s2 ⟨l, H2, I2, pl, el, e2⟩ => ?_)
  subst el e2
  refine thn (po_none.run pins s2 σ H2 (fun o H3 => o = none ∧ H3 = H2) I2 ⟨rfl, rfl⟩) fun vu s3 ⟨u, H3, I3, pu, eu, e3⟩ => ?_
  subst eu e3
  refine thn (hst.run pins s3 σ H3 (fun o H4 => o = some (-1) ∧ H4 = H3) I3 ⟨1, rfl, -1, rfl, rfl, rfl⟩) fun vs s4 ⟨o, H4, I4, ps, eo, e4⟩ => ?_
  subst eo e4
  obtain rfl : vl = .none := by
    cases pl
    rfl
  obtain rfl : vu = .none := by
    cases pu
    rfl
  obtain ⟨tk, rfl⟩ : ∃ tk, vs = .int (-1) tk := by
    cases ps
    exact ⟨_, rfl⟩
  have I5 : L2.Inv X pins σ H4 { s4 with heap := s4.heap.push { cls := .type "slice", data := .fields #[.none, .none, .int (-1) tk] } } := I4.kept (t' := s4.toks) fun b ob q => Heap.get?_push_of_some _ q
  obtain ⟨its, r, ht, hz⟩ := I5.tuple hx
  have hlen := r.length
  show wpAny (model X.prog X.w) X.A (subscriptTail e (.Slice none none (some (.UnaryOp .USub (.Constant (.int 1) k p1) p2)) p3) (.ref a) (.ref s4.heap.objs.size)) (EP X pins σ Q) X.xe { s4 with heap := s4.heap.push { cls := .type "slice", data := .fields #[.none, .none, .int (-1) tk] } }
  refine tail_any (ops := [.ref a, .ref s4.heap.objs.size]) ht.typeIs (PyProof.Rows.slot_tuple_getitem.lookup) ?_ (by with_unfolding_all rfl)
  refine getItem_tuple_rev ht (Heap.IsSliceOf.new _ .none .none (.int (-1) tk)) ?_ (by rw [List.size_toArray]; omega)
  refine ⟨.ref _, _, I5.laid (t' := s4.toks) (o := .tup xs.reverse) (fun b ob q => Heap.get?_push_of_some _ q) (Nat.le_refl _) ?_, rfl, q _ (I5.hok.fresh (Nat.le_refl _))⟩
  exact ⟨by rw [List.length_reverse]; exact hz, _, r.reverse, IsTup.new _ _⟩
end Nw
end
section
/-! Promises: backwards, hardest, places_up_to, limits. -/
namespace Nw
open PySem PySem.Spec PyProof.Rows L2 ClX
theorem OkN.rev {W : Nat} {st : List Nat} (ok : OkN W st) : OkN W st.reverse := ⟨ok.lo, ok.hi, by rw [List.length_reverse]; exact ok.len, fun k hk => ok.at_ k (List.mem_reverse.mp hk)⟩
section
variable {P : Program} {w : World} {K : PySem.W.Frag} {mg : Str → Option Value} {base : Heap}
theorem Tx.back (t : Tx K mg base) : Meth K (He.ga K "Network") "backwards" (He.ma K (He.ga K "Network") "backwards") := He.meth_ok (t.c.fact 64 (f := .meth "Network" "backwards") rfl)
/-- backwards -/
def spBack (K : PySem.W.Frag) : Sp := fun vs H Q _ => ∃ (a : Addr) (W : Nat) (st : List Nat), vs = [.ref a] ∧ Net K H a W st ∧ OkN W st ∧ ∀ H' p, Same H H' → Net K H' p W st.reverse → Q (.ref p) H'
theorem ok_backwards (t : Tx K mg base) : Okd P w K mg base 5 d_Network_backwards ["self"] (spBack K) := by
  refine okd_of t 8 rfl (N := ["self"]) ⟨rfl, rfl, rfl, by decide +kernel, rfl, by decide +kernel, by decide +kernel⟩ rfl rfl (fun _ _ _ _ _ _ us hl => match us, hl with | [_], _ => rfl) (fun vs H Q E h => ?_) fun cdv A outer s H vs Q E hr h => ?_
  · obtain ⟨_, _, _, rfl, _⟩ := h
    rfl
  · obtain ⟨a, W, st, rfl, ⟨dx, tp, n1, n2⟩, ok, hq⟩ := h
    refine ⟨_, pss_one (ps_ret (pe_mk t hr (by rfl) (pa_cons (pe_fld (pv 0) rfl) (pa_cons (pe_revT (pe_fld (pv 0) rfl)) pa_nil)))), ?_⟩
    refine ⟨_, rfl, a, _, dx, _, _, rfl, n1, t.cl, t.nw, rfl, ?_⟩
    refine ⟨_, rfl, a, _, dx, _, _, rfl, n1, t.cl, t.ns_, rfl, ?_⟩
    refine ⟨tp, _, rfl, SqT.of n2, fun p hp => ?_⟩
    refine mk_net ok.rev (.inr ?_) fun H2 x s2 _ nn => hq H2 x ((same_new hp).trans s2) nn
    rw [upd_same, nV, nV, List.map_reverse]
/-- hardest -/
def spHard (K : PySem.W.Frag) : Sp := fun vs H Q _ => ∃ (a : Addr) (W : Nat) (st : List Nat), vs = [.ref a] ∧ Net K H a W st ∧ OkN W st ∧ ∀ H' p, Same H H' → H' p = some (.lst (iV (har W st))) → Q (.ref p) H'
theorem rg_up (W : Nat) : rgV 1 ((W : Int) + 1) = iV (up W) := by
  unfold rgV up iV
  rw [List.map_map, show ((W : Int) + 1 - 1).toNat = W by omega]
  rfl
theorem ok_hardest (t : Tx K mg base) : Okd P w K mg base 6 d_hardest ["network"] (spHard K) := by
  have S : FnScope ["network", "values", "step"] ["network"] d_hardest.scope := ⟨rfl, rfl, rfl, by decide +kernel, rfl, by decide +kernel, by decide +kernel⟩
  obtain ⟨fd, F, G, bb⟩ := (ok_backwards t : Okd P w K mg base 5 d_Network_backwards ["self"] (spBack K))
  refine okd_of t 27 rfl S rfl rfl (fun _ _ _ _ _ _ us hl => match us, hl with | [_], _ => rfl) (fun vs H Q E h => ?_) fun cdv A outer s H vs Q E hr h => ?_
  · obtain ⟨_, _, _, rfl, _⟩ := h
    rfl
  · obtain ⟨a, W, st, rfl, n, ok, hq⟩ := h
    obtain ⟨dx, tp, n1, n2⟩ := id n
    refine ⟨_, pss_cons (ps_set (i := 1) S.nd rfl (Or.inl rfl) (pe_listRg (by rfl) (by rfl) t.list (prg_2 (by rfl) t.range pe_int (pe_op op_add (pe_width t (pv 0) (Room.mono (k := 5) hr (by decide))) pe_int))))
      (pss_cons (ps_for PassesOwn.leaving rfl (pi_tup (pe_steps t (pe_meth0 (pv 0) t.cl t.back G hr bb .nil pass0) (Room.mono (k := 5) hr (by decide)))) (pg_name (i := 2) S.nd rfl (Or.inl rfl))
        (pss_one (ps_if (pt_cmpR op_lt (pe_ix ix_list (pv 1) (pe_op op_sub (pv 2) pe_int) (fun _ _ => rfl)) (pe_ix ix_list (pv 1) (pv 2) (fun _ _ => rfl)) (nomark _))
          (pss_one (ps_asg (pe_tup (pa_cons (pe_ix ix_list (pv 1) (pv 2) (fun _ _ => rfl)) (pa_cons (pe_ix ix_list (pv 1) (pe_op op_sub (pv 2) pe_int) (fun _ _ => rfl)) pa_nil))) (pg_tup (by rfl) (pgs_cons (pg_sub (pv 1) (pe_op op_sub (pv 2) pe_int) set_list) (pgs_cons (pg_sub (pv 1) (pv 2) set_list) pgs_nil))))) pss_nil)))
      (pss_one (ps_ret (pv 1)))), ?_⟩
    refine ⟨_, rfl, net_w n1 ⟨_, _, rfl, rfl, 1, _, rfl, rfl, ?_, fun q hq' => ?_⟩⟩
    · have := ok.hi
      exact ⟨by omega, by omega, by omega, by omega, by omega⟩
    rw [rg_up]
    have s1 : Same H (upd H q (.lst (iV (up W)))) := same_new hq'
    refine ⟨_, rfl, a, dx, _, rfl, s1 _ _ n1, rfl, a, W, st, rfl, n.same s1, ok, fun H2 b s2 nb => ?_⟩
    obtain ⟨dx', tp', m1, m2⟩ := nb
    refine net_s m1 ⟨tp', rfl, ⟨_, SqT.of m2⟩, ?_⟩
    refine for_tup (xs := nV st.reverse) (fun i σ H' => (∃ v, σ = [some (.ref a), some (.ref q), v]) ∧ Same H H' ∧ H' tp' = some (.tup (nV st.reverse)) ∧ H' q = some (.lst (iV (bres (st.reverse.take i) (up W)))))
      ⟨⟨_, rfl⟩, s1.trans s2, m2, s2 _ _ upd_same⟩ (fun i σ H' _ ⟨_, _, b, _⟩ => SqT.of b) (fun i x σ H' hx ⟨⟨v, es⟩, b, bt, bq⟩ => ?_) (fun σ H' ⟨⟨v, es⟩, b, bt, bq⟩ => ?_)
    · subst es
      have hi : i < st.reverse.length := by
        have := (List.getElem?_eq_some_iff.mp hx).1
        simpa using this
      rw [nat_ hi] at hx
      obtain rfl := (Option.some.inj hx).symm
      have hz := ok.rev.at_ _ (List.getElem_mem hi)
      have et : bres (st.reverse.take (i + 1)) (up W) = bst (bres (st.reverse.take i) (up W)) st.reverse[i] := by
        rw [List.take_succ_eq_append_getElem hi]
        unfold bres
        rw [List.foldl_append]
        rfl
      have ly : (bres (st.reverse.take i) (up W)).length = W := by rw [bres_len, up_len]
      rw [et]
      generalize st.reverse[i] = k at hz
      generalize bres (st.reverse.take i) (up W) = ys at bq ly
      have e1 : (k : Int) - 1 = ((k - 1 : Nat) : Int) := by omega
      have fq : H q = none := hq'
      refine ⟨_, rfl, _, rfl, _, _, rfl, rfl, q, _, _, _, rfl, rfl, SqL.of bq, (by rw [e1]; exact atI_nat (iat (by omega))), ?_⟩
      refine ⟨_, rfl, _, rfl, q, _, _, _, rfl, rfl, SqL.of bq, atI_nat (iat (by omega)), ?_⟩
      refine ⟨_, _, rfl, rfl, _, rfl, ?_⟩
      refine ite2 (fun c => ?_) (fun c => ?_)
      · have c := of_decide_eq_true c
        refine ⟨_, rfl, _, rfl, q, _, _, _, rfl, rfl, SqL.of bq, atI_nat (iat (by omega)), ?_⟩
        refine ⟨_, rfl, _, rfl, _, _, rfl, rfl, q, _, _, _, rfl, rfl, SqL.of bq, (by rw [e1]; exact atI_nat (iat (by omega))), ?_⟩
        refine ⟨(by show 2 ≤ sizeLine; decide), fun p hp => ?_⟩
        have hqp : q ≠ p := ne_of_none bq hp
        have htp : tp' ≠ q := ne_of bt bq (by intro z; cases z)
        refine ⟨p, _, rfl, SqT.of upd_same, rfl, ?_⟩
        refine ⟨_, _, rfl, _, rfl, _, rfl, _, _, rfl, rfl, q, _, _, (k - 1 : Nat), rfl, rfl, (upd_ne hqp).trans bq, (by rw [e1, iV_len]; exact ixn (by omega)), ?_⟩
        refine ⟨_, _, rfl, _, rfl, _, rfl, q, _, _, k, rfl, rfl, upd_same, (by rw [List.length_set, iV_len]; exact ixn (by omega)), ?_⟩
        refine ⟨rfl, ⟨_, rfl⟩, fun a' o hh => ?_, (upd_ne htp).trans ((upd_ne htp).trans ((upd_ne (ne_of_none bt hp)).trans bt)), ?_⟩
        · have hne := ne_of_none hh fq
          exact (upd_ne hne).trans ((upd_ne hne).trans ((upd_ne (ne_of_none (b _ _ hh) hp)).trans (b _ _ hh)))
        · rw [upd_same, iset, iset]
          unfold bst
          rw [if_pos c]
      · have c : ¬ gi ys (k - 1) < gi ys k := fun z => c (decide_eq_true z)
        refine ⟨⟨_, rfl⟩, b, bt, ?_⟩
        unfold bst
        rw [if_neg c]
        exact bq
    · subst es
      refine ⟨_, rfl, hq H' q b ?_⟩
      rw [bq, nV_len, List.take_length]
      rfl
/-- places_up_to -/
def spPlc : Sp := fun vs H Q _ => ∃ (l : Addr) (xs : List Int) (c : Int), vs = [.ref l, .int c] ∧ H l = some (.lst (iV xs)) ∧ xs.length ≤ 1000 ∧ ∀ H' p, Same H H' → H p = none → H' p = some (.lst (nV (plc xs c))) → Q (.ref p) H'
theorem ok_places_up_to (t : Tx K mg base) : Okd P w K mg base 1 d_places_up_to ["values", "threshold"] spPlc := by
  have S : FnScope ["values", "threshold", "place", "value"] ["values", "threshold"] d_places_up_to.scope := ⟨rfl, rfl, rfl, by decide +kernel, rfl, by decide +kernel, by decide +kernel⟩
  refine okd_of t 28 rfl S rfl rfl (fun _ _ _ _ _ _ us hl => match us, hl with | [_, _], _ => rfl) (fun vs H Q E h => ?_) fun cdv A outer s H vs Q E hr h => ?_
  · obtain ⟨_, _, _, rfl, _⟩ := h
    rfl
  · obtain ⟨l, xs, c, rfl, hl, hx, hq⟩ := h
    refine ⟨_, pss_one (ps_ret (pe_lc (own := [("place", 2), ("value", 3)]) rfl S.nd (pi_enumK (by rfl) t.enumerate (pa_cons (pv 0) (pa_cons pe_int pa_nil)))
      (blkOk_by (N := ["values", "threshold", "place", "value"]) (sc := d_places_up_to.scope) (by decide +kernel))
      (fun _ _ _ _ _ => pg_tupK (K := K) (n := 2) (by rfl) (pgs_cons (pg_name (i := 2) S.nd rfl (Or.inl rfl)) (pgs_cons (pg_name (i := 3) S.nd rfl (Or.inl rfl)) pgs_nil))) (fun _ _ _ _ _ => pts_one (pt_cmpR op_le (pv 3) (pv 1) (nomark _))) (fun _ _ _ _ _ => pv 2))), ?_⟩
    refine ⟨_, rfl, l, _, 1, rfl, by decide, by decide, SqL.of hl, fun D hD => ?_⟩
    refine lc_enum (xs := iV xs) (fun i H' => Same H H' ∧ H' D = some (.lst (nV (((List.range i).filter fun i => decide (gi xs i ≤ c)).map (· + 1))))) ⟨same_new hD, upd_same⟩ (fun i H' _ ⟨b, _⟩ => SqL.of (b _ _ hl)) (fun i x T H' hx' ⟨b1, b2⟩ hT => ?_) (fun H' ⟨b1, b2⟩ => ?_)
    · have hi : i < xs.length := by
        have := (List.getElem?_eq_some_iff.mp hx').1
        simpa using this
      rw [iat hi] at hx'
      obtain rfl := (Option.some.inj hx').symm
      have sT : Same H' (upd H' T (.tup [V.int (1 + (i : Nat)), V.int (gi xs i)])) := same_new hT
      refine ⟨T, _, rfl, SqT.of upd_same, rfl, _, _, rfl, _, _, rfl, rfl, rfl, ?_⟩
      refine ⟨_, rfl, _, rfl, _, _, rfl, rfl, _, rfl, ?_⟩
      have ef : List.range (i + 1) = List.range i ++ [i] := List.range_succ
      refine ite2 (fun z => ?_) (fun z => ?_)
      · refine ⟨_, rfl, _, sT _ _ b2, ?_, fun q' o hh => (upd_ne (ne_of_none hh hD)).trans (sT _ _ (b1 q' o hh)), ?_⟩
        · refine small1000 ?_
          rw [nV_len, List.length_map]
          have := List.length_filter_le (fun i => decide (gi xs i ≤ c)) (List.range i)
          rw [List.length_range] at this
          omega
        · rw [upd_same, ef, List.filter_append, List.filter_cons_of_pos (p := fun i => decide (gi xs i ≤ c)) z, List.filter_nil, List.map_append, nV, nV, List.map_append, List.map_cons, List.map_nil, List.map_cons, List.map_nil]
          rw [show (1 : Int) + (i : Nat) = ((i + 1 : Nat) : Int) by omega]
      · refine ⟨b1.trans sT, ?_⟩
        rw [ef, List.filter_append, List.filter_cons_of_neg (p := fun i => decide (gi xs i ≤ c)) z, List.filter_nil, List.append_nil]
        exact sT _ _ b2
    · rw [iV_len] at b2
      exact hq H' D b1 hD b2
/-- a list of lists of places -/
def LL (H : Hp) (p : Addr) (Ls : List (List Nat)) : Prop := ∃ as : List Addr, H p = some (.lst (as.map V.ref)) ∧ as.length = Ls.length ∧ ∀ (i : Nat) (a : Addr) (L : List Nat), as[i]? = some a → Ls[i]? = some L → H a = some (.lst (nV L))
/-- limits -/
def spLim (K : PySem.W.Frag) : Sp := fun vs H Q _ => ∃ (a : Addr) (W : Nat) (st : List Nat), vs = [.ref a] ∧ Net K H a W st ∧ OkN W st ∧ ∀ H' p, Same H H' → LL H' p (lims W st) → Q (.ref p) H'
theorem ok_limits (t : Tx K mg base) : Okd P w K mg base 7 d_limits ["network"] (spLim K) := by
  have S : FnScope ["network", "values", "count"] ["network"] d_limits.scope := ⟨rfl, rfl, rfl, by decide +kernel, rfl, by decide +kernel, by decide +kernel⟩
  have G1 : Okd P w K mg base 6 d_hardest ["network"] (spHard K) := ok_hardest t
  have G2 : Okd P w K mg base 6 d_places_up_to ["values", "threshold"] spPlc := okd_mono (ok_places_up_to t) (by decide)
  refine okd_of t 29 rfl S rfl rfl (fun _ _ _ _ _ _ us hl => match us, hl with | [_], _ => rfl) (fun vs H Q E h => ?_) fun cdv A outer s H vs Q E hr h => ?_
  · obtain ⟨_, _, _, rfl, _⟩ := h
    rfl
  · obtain ⟨a, W, st, rfl, n, ok, hq⟩ := h
    obtain ⟨dx, tp, n1, n2⟩ := id n
    refine ⟨_, pss_cons (ps_set (i := 1) S.nd rfl (Or.inr rfl) (pe_cl G1 hr (by rfl) (t.g 22) (pa_cons (pv 0) pa_nil)))
      (pss_one (ps_ret (pe_lc (own := [("count", 2)]) (g := gName 2) (tt := tYes) rfl S.nd (pi_range2 (by rfl) t.range (pa_cons pe_int (pa_cons (pe_width t (pv 0) (Room.mono (k := 6) hr (by decide))) pa_nil))) (blkOk_by (N := ["network", "values", "count"]) (sc := d_limits.scope) (by decide +kernel))
        (fun _ _ _ _ _ => pg_name (i := 2) S.nd rfl (Or.inl rfl)) (fun _ _ _ _ _ => pts_nil) (fun _ _ _ _ _ => pe_cl G2 hr (by rfl) (t.g 23) (pa_cons (pv 1) (pa_cons (pv 2) pa_nil)))))), ?_⟩
    refine ⟨_, rfl, a, W, st, rfl, n, ok, fun H1 p s1 hp => ?_⟩
    refine ⟨_, rfl, net_w (s1 _ _ n1) ⟨1, _, rfl, (by have := ok.hi; omega), fun D hD => ?_⟩⟩
    have fD : H D = none := s1.free hD
    refine lc_range (lo := 1) (n := ((W : Int) - 1).toNat) (fun i H' => Same H H' ∧ H' p = some (.lst (iV (har W st))) ∧ ∃ as : List Addr, H' D = some (.lst (as.map V.ref)) ∧ as.length = i ∧ ∀ (j : Nat) (b : Addr), as[j]? = some b → b ≠ D ∧ H' b = some (.lst (nV (plc (har W st) (1 + (j : Int))))))
      ⟨s1.trans (same_new hD), same_new hD _ _ hp, [], upd_same, rfl, fun j b h => nomatch h⟩ (fun i H' hi ⟨b0, b1, as, b2, b3, b4⟩ => ?_) (fun H' ⟨b0, b1, as, b2, b3, b4⟩ => ?_)
    · refine ⟨rfl, ?_⟩
      refine ⟨_, rfl, _, rfl, p, _, _, rfl, b1, (by rw [har_len]; have := ok.hi; omega), fun H3 q s3 fq hq3 => ?_⟩
      have hDq : D ≠ q := ne_of_none b2 fq
      have hpD : p ≠ D := ne_of_none hp hD
      refine ⟨_, s3 _ _ b2, ?_, fun q' o hh => (upd_ne (ne_of_none hh fD)).trans (s3 _ _ (b0 q' o hh)), (upd_ne hpD).trans (s3 _ _ b1), as ++ [q], ?_, ?_, fun j b hj => ?_⟩
      · refine small1000 ?_
        rw [List.length_map]
        have := ok.hi
        omega
      · rw [upd_same, List.map_append]
        rfl
      · rw [List.length_append, List.length_singleton, b3]
      · rcases Nat.lt_or_ge j as.length with h | h
        · rw [List.getElem?_append_left h] at hj
          obtain ⟨c1, c2⟩ := b4 j b hj
          exact ⟨c1, (upd_ne c1).trans (s3 _ _ c2)⟩
        · rw [List.getElem?_append_right h] at hj
          have ej : j - as.length = 0 := by
            rcases Nat.eq_zero_or_pos (j - as.length) with z | z
            · exact z
            · rw [List.getElem?_eq_none (by simp; omega)] at hj
              cases hj
          rw [ej] at hj
          obtain rfl := Option.some.inj hj
          refine ⟨Ne.symm hDq, (upd_ne (Ne.symm hDq)).trans ?_⟩
          rw [show j = i by omega]
          exact hq3
    · refine hq H' D b0 ⟨as, b2, ?_, fun i b L h1 h2 => ?_⟩
      · unfold lims
        rw [b3, List.length_map, List.length_range]
        omega
      · unfold lims at h2
        rw [List.getElem?_map] at h2
        obtain ⟨c1, c2⟩ := b4 i b h1
        have hi : i < W - 1 := by
          have := (List.getElem?_eq_some_iff.mp h1).1
          omega
        rw [List.getElem?_range hi] at h2
        obtain rfl := Option.some.inj h2
        exact c2
end
end Nw
end
section
/-! Promises of the law's helpers: _law_source, _law_draw. -/
namespace Nw
open PySem PySem.Spec PyProof.Rows L2 ClX
/-- a source of draws -/
def Sr (H : Hp) (l : Addr) : Prop := ∃ A B : Int, H l = some (.lst [.int A, .int B])
section
variable {P : Program} {w : World} {K : PySem.W.Frag} {mg : Str → Option Value} {base : Heap}
/-- _law_draw -/
def spDraw : Sp := fun vs H Q _ => ∃ (l : Addr) (c : Int), vs = [.ref l, .int c] ∧ Sr H l ∧ 1 ≤ c ∧ c < 1000000 ∧ ∀ H' r, Mut l H H' → Sr H' l → 0 ≤ r → r < c → Q (.int r) H'
theorem ok_law_draw (t : Tx K mg base) : Okd P w K mg base 1 d_law_draw ["_law_source_here", "_law_count"] spDraw := by
  have S : FnScope ["_law_source_here", "_law_count", "_law_result_here"] ["_law_source_here", "_law_count"] d_law_draw.scope := ⟨rfl, rfl, rfl, by decide +kernel, rfl, by decide +kernel, by decide +kernel⟩
  refine okd_of t 37 rfl S rfl rfl (fun _ _ _ _ _ _ us hl => match us, hl with | [_, _], _ => rfl) (fun vs H Q E h => ?_) fun cdv A outer s H vs Q E hr h => ?_
  · obtain ⟨_, _, rfl, _⟩ := h
    rfl
  · obtain ⟨l, c, rfl, ⟨a, b, hl⟩, c1, c2, hq⟩ := h
    refine ⟨_, pss_cons (ps_if (pt_cmpR op_gt (pe_ix ix_list (pv 0) pe_int (fun _ _ => rfl)) pe_int (nomark _))
        (pss_cons (ps_set (i := 2) S.nd rfl (Or.inl rfl) (pe_op op_mod (pe_ix ix_list (pv 0) pe_int (fun _ _ => rfl)) (pv 1)))
        (pss_cons (ps_asg (pe_op op_fdivN (pe_ix ix_list (pv 0) pe_int (fun _ _ => rfl)) (pv 1)) (pg_sub (pv 0) pe_int set_list))
        (pss_one (ps_ret (pv 2))))) pss_nil)
      (pss_cons (ps_asg (pe_op op_mod (pe_op op_add (pe_op op_mul (pe_ix ix_list (pv 0) pe_int (fun _ _ => rfl)) pe_int) pe_int) pe_int) (pg_sub (pv 0) pe_int set_list))
      (pss_one (ps_ret (pe_op op_mod (pe_op op_fdivN (pe_op op_mod (pe_op op_mul (pe_ix ix_list (pv 0) pe_int (fun _ _ => rfl)) (pe_ix ix_list (pv 0) pe_int (fun _ _ => rfl))) pe_int) pe_int) (pv 1))))), ?_⟩
    have cn : ¬ c = 0 := by omega
    refine ⟨_, rfl, l, _, _, _, rfl, rfl, SqL.of hl, atI_nat (j := 0) rfl, ?_⟩
    refine ⟨_, _, rfl, rfl, _, rfl, ?_⟩
    refine ite2 (fun z => ?_) (fun z => ?_)
    · refine ⟨_, rfl, l, _, _, _, rfl, rfl, SqL.of hl, atI_nat (j := 0) rfl, ?_⟩
      refine ⟨_, rfl, _, _, rfl, rfl, (by omega), ?_⟩
      refine ⟨_, rfl, l, _, _, _, rfl, rfl, SqL.of hl, atI_nat (j := 0) rfl, ?_⟩
      refine ⟨_, rfl, _, _, rfl, rfl, ⟨cn, by omega⟩, ?_⟩
      refine ⟨_, rfl, l, _, _, 0, rfl, rfl, hl, ixn (n := 2) (j := 0) (by decide), ?_⟩
      exact ⟨_, rfl, hq _ _ (fun q o hne hh => (upd_ne hne).trans hh) ⟨_, _, upd_same⟩ (Int.emod_nonneg _ cn) (Int.emod_lt_of_pos _ (by omega))⟩
    · refine ⟨_, rfl, l, _, _, _, rfl, rfl, SqL.of hl, atI_nat (j := 1) rfl, ?_⟩
      refine ⟨_, _, rfl, rfl, .inr ⟨by decide, by decide⟩, ?_⟩
      refine ⟨_, _, rfl, rfl, ?_⟩
      refine ⟨_, _, rfl, rfl, (by show (0 : Int) < 2147483647; decide), ?_⟩
      refine ⟨_, rfl, l, _, _, 1, rfl, rfl, hl, ixn (n := 2) (j := 1) (by decide), ?_⟩
      have h0 : 0 ≤ (b * 48271 + 11) % 2147483647 := Int.emod_nonneg _ (by decide)
      have h1 : (b * 48271 + 11) % 2147483647 < 2147483647 := Int.emod_lt_of_pos _ (by decide)
      generalize (b * 48271 + 11) % 2147483647 = b' at h0 h1
      refine ⟨_, rfl, l, _, _, _, rfl, rfl, SqL.of upd_same, atI_nat (j := 1) rfl, ?_⟩
      refine ⟨_, rfl, l, _, _, _, rfl, rfl, SqL.of upd_same, atI_nat (j := 1) rfl, ?_⟩
      refine ⟨_, _, rfl, rfl, .inl ⟨by omega, by omega⟩, ?_⟩
      refine ⟨_, _, rfl, rfl, (by show (0 : Int) < 2147483629; decide), ?_⟩
      refine ⟨_, _, rfl, rfl, ⟨by decide, by decide⟩, ?_⟩
      refine ⟨_, rfl, _, _, rfl, rfl, (by omega), ?_⟩
      exact hq _ _ (fun q o hne hh => (upd_ne hne).trans hh) ⟨_, _, upd_same⟩ (Int.emod_nonneg _ cn) (Int.emod_lt_of_pos _ (by omega))
end
end Nw
end
section
/-! Promises of the law's helpers: _law_source, _law_result, _law_is_as_far. -/
namespace Nw
open PySem PySem.Spec PyProof.Rows L2 ClX
theorem cut_any (xs : List Int) (p : Nat) : cutV (iV xs) none (some (p : Int)) = iV (xs.take p) := by
  unfold cutV
  rw [HT.sIx_none, HT.sIx_nat, List.drop_zero, Nat.sub_zero, iV_len, ← List.map_take]
  rcases Nat.le_total p xs.length with h | h
  · rw [Nat.min_eq_left h]
  · rw [Nat.min_eq_right h, List.take_of_length_le h, List.take_of_length_le (Nat.le_refl _)]
section
variable {P : Program} {w : World} {K : PySem.W.Frag} {mg : Str → Option Value} {base : Heap}
/-- _law_source -/
def spSrc (K : PySem.W.Frag) : Sp := fun vs H Q _ => ∃ (s : Addr) (xs : List Int) (k : Nat), vs = [.ref s, .int (k : Nat)] ∧ SqL K H s (iV xs) ∧ k < 6 ∧ ∀ H' p, Same H H' → H p = none → Sr H' p → Q (.ref p) H'
theorem ok_law_source (t : Tx K mg base) : Okd P w K mg base 1 d_law_source ["_law_script", "_law_k"] (spSrc K) := by
  have S : FnScope ["_law_script", "_law_k", "_law_cell", "_law_size", "_law_mixed"] ["_law_script", "_law_k"] d_law_source.scope := ⟨rfl, rfl, rfl, by decide +kernel, rfl, by decide +kernel, by decide +kernel⟩
  refine okd_of t 36 rfl S rfl rfl (fun _ _ _ _ _ _ us hl => match us, hl with | [_, _], _ => rfl) (fun vs H Q E h => ?_) fun cdv A outer s H vs Q E hr h => ?_
  · obtain ⟨_, _, _, rfl, _⟩ := h
    rfl
  · obtain ⟨l, xs, k, rfl, hl, hk, hq⟩ := h
    refine ⟨_, pss_cons (ps_set (i := 2) S.nd rfl (Or.inl rfl) (pe_op op_add (pe_op op_mul pe_int (pe_callB (cr_sum rfl) (by rfl) t.sum (by decide +kernel) (pa_cons (pe_slice sl_list (pv 0) po_none (po_some pe_int)) pa_nil))) (pv 1)))
      (pss_cons (ps_if (pt_cmpR op_lt (pv 1) (pe_callB call_len_seq (by rfl) t.len PySem.boot_len (pa_cons (pv 0) pa_nil)) (nomark _)) (pss_one (ps_set (i := 2) S.nd rfl (Or.inl rfl) (pe_ix ix_list (pv 0) (pv 1) (fun _ _ => rfl)))) pss_nil)
      (pss_cons (ps_set (i := 3) S.nd rfl (Or.inl rfl) (pe_callB call_abs (by rfl) t.abs (by decide +kernel) (pa_cons (pv 2) pa_nil)))
      (pss_cons (ps_set (i := 4) S.nd rfl (Or.inl rfl) (pe_op op_mod (pe_op op_mul (pe_op op_add (pe_op op_add (pe_op op_add (pe_op op_mod (pv 3) pe_int) (pe_op op_mul (pe_op op_mul pe_int (pv 1)) (pv 1))) (pe_op op_mul pe_int (pv 1))) pe_int) pe_int) pe_int))
      (pss_one (ps_ret (pe_lst (pa_cons (pe_op op_mul (pv 3) (pe_callTy call_int1 (by rfl) t.int (by decide +kernel) (pa_cons (pe_cmpR op_ge (pv 3) (pe_op op_pow pe_int pe_int) (nomark _)) pa_nil))) (pa_cons (pe_op op_mod (pe_op op_mul (pv 4) (pv 4)) pe_int) pa_nil)))))))), ?_⟩
    refine ⟨_, rfl, _, rfl, l, _, rfl, hl, fun q hq1 => ?_⟩
    have c63 : cutV (iV xs) none (some (63 : Int)) = iV (xs.take 63) := cut_any xs 63
    rw [c63]
    have s1 : Same H (upd H q (.lst (iV (xs.take 63)))) := same_new hq1
    refine ⟨q, _, rfl, SqL.of upd_same, ?_⟩
    refine ⟨_, _, rfl, rfl, .inl ⟨by decide, by decide⟩, ?_⟩
    refine ⟨_, rfl, _, _, rfl, rfl, ?_⟩
    refine ⟨_, rfl, _, rfl, l, _, rfl, .inl (s1.seq hl), _, _, rfl, rfl, _, rfl, ?_⟩
    refine ite2 (fun z => ?_) (fun z => ?_)
    · have z := of_decide_eq_true z
      rw [iV_len] at z
      refine ⟨_, rfl, _, rfl, l, _, _, _, rfl, rfl, s1.seq hl, atI_nat (iat (by omega)), ?_⟩
      generalize gi xs k = c
      generalize hz : (if c < 0 then -c else c) = c1
      refine ⟨_, rfl, _, rfl, ?_⟩
      rw [hz]
      refine ⟨_, rfl, _, _, rfl, rfl, (by show (0 : Int) < 2147483629; decide), ?_⟩
      refine ⟨_, rfl, _, _, rfl, rfl, .inl ⟨by decide, by decide⟩, ?_⟩
      refine ⟨_, rfl, _, _, rfl, rfl, .inr ⟨by omega, by omega⟩, ?_⟩
      refine ⟨_, _, rfl, rfl, ?_⟩
      refine ⟨_, rfl, _, _, rfl, rfl, .inl ⟨by decide, by decide⟩, ?_⟩
      refine ⟨_, _, rfl, rfl, ?_⟩
      refine ⟨_, _, rfl, rfl, ?_⟩
      refine ⟨_, _, rfl, rfl, .inr ⟨by decide, by decide⟩, ?_⟩
      refine ⟨_, _, rfl, rfl, (by show (0 : Int) < 2147483647; decide), ?_⟩
      have h0 : 0 ≤ (c1 % 2147483629 + 7919 * (k : Int) * k + 31 * k + 17) * 48271 % 2147483647 := Int.emod_nonneg _ (by decide)
      have h1 : (c1 % 2147483629 + 7919 * (k : Int) * k + 31 * k + 17) * 48271 % 2147483647 < 2147483647 := Int.emod_lt_of_pos _ (by decide)
      refine ⟨_, rfl, _, rfl, _, _, rfl, rfl, ⟨by decide, by decide, by decide⟩, ?_⟩
      refine ⟨_, _, rfl, rfl, .inr ⟨_, rfl, ?_⟩⟩
      refine ⟨_, _, rfl, rfl, .inr ⟨by split <;> decide, by split <;> decide⟩, ?_⟩
      refine ⟨_, rfl, _, rfl, _, _, rfl, rfl, .inl ⟨by omega, by omega⟩, ?_⟩
      refine ⟨_, _, rfl, rfl, (by show (0 : Int) < 2147483629; decide), (by show 2 ≤ sizeLine; decide), fun p hp => ?_⟩
      exact hq _ p (s1.trans (same_new hp)) (s1.free hp) ⟨_, _, upd_same⟩
    · generalize hz : (if 7 * (xs.take 63).sum + (k : Int) < 0 then -(7 * (xs.take 63).sum + (k : Int)) else 7 * (xs.take 63).sum + (k : Int)) = c1
      refine ⟨_, rfl, _, rfl, ?_⟩
      rw [hz]
      refine ⟨_, rfl, _, _, rfl, rfl, (by show (0 : Int) < 2147483629; decide), ?_⟩
      refine ⟨_, rfl, _, _, rfl, rfl, .inl ⟨by decide, by decide⟩, ?_⟩
      refine ⟨_, rfl, _, _, rfl, rfl, .inr ⟨by omega, by omega⟩, ?_⟩
      refine ⟨_, _, rfl, rfl, ?_⟩
      refine ⟨_, rfl, _, _, rfl, rfl, .inl ⟨by decide, by decide⟩, ?_⟩
      refine ⟨_, _, rfl, rfl, ?_⟩
      refine ⟨_, _, rfl, rfl, ?_⟩
      refine ⟨_, _, rfl, rfl, .inr ⟨by decide, by decide⟩, ?_⟩
      refine ⟨_, _, rfl, rfl, (by show (0 : Int) < 2147483647; decide), ?_⟩
      have h0 : 0 ≤ (c1 % 2147483629 + 7919 * (k : Int) * k + 31 * k + 17) * 48271 % 2147483647 := Int.emod_nonneg _ (by decide)
      have h1 : (c1 % 2147483629 + 7919 * (k : Int) * k + 31 * k + 17) * 48271 % 2147483647 < 2147483647 := Int.emod_lt_of_pos _ (by decide)
      refine ⟨_, rfl, _, rfl, _, _, rfl, rfl, ⟨by decide, by decide, by decide⟩, ?_⟩
      refine ⟨_, _, rfl, rfl, .inr ⟨_, rfl, ?_⟩⟩
      refine ⟨_, _, rfl, rfl, .inr ⟨by split <;> decide, by split <;> decide⟩, ?_⟩
      refine ⟨_, rfl, _, rfl, _, _, rfl, rfl, .inl ⟨by omega, by omega⟩, ?_⟩
      refine ⟨_, _, rfl, rfl, (by show (0 : Int) < 2147483629; decide), (by show 2 ≤ sizeLine; decide), fun p hp => ?_⟩
      exact hq _ p (s1.trans (same_new hp)) (s1.free hp) ⟨_, _, upd_same⟩
/-- _law_result -/
def spLRes : Sp := fun vs H Q _ => ∃ (t l : Addr) (st : List Nat) (xs : List Int), vs = [.ref t, .ref l] ∧ H t = some (.lst (nV st)) ∧ H l = some (.lst (iV xs)) ∧ (∀ k ∈ st, 1 ≤ k ∧ k < xs.length) ∧
  ∀ H' p, Same H H' → H' p = some (.lst (iV (res st xs))) → Q (.ref p) H'
theorem ok_law_result (t : Tx K mg base) : Okd P w K mg base 1 d_law_result ["_law_steps_here", "_law_values"] spLRes := by
  have S : FnScope ["_law_steps_here", "_law_values", "_law_result_here", "_law_step", "_law_left", "_law_right"] ["_law_steps_here", "_law_values"] d_law_result.scope := ⟨rfl, rfl, rfl, by decide +kernel, rfl, by decide +kernel, by decide +kernel⟩
  refine okd_of t 39 rfl S rfl rfl (fun _ _ _ _ _ _ us hl => match us, hl with | [_, _], _ => rfl) (fun vs H Q E h => ?_) fun cdv A outer s H vs Q E hr h => ?_
  · obtain ⟨_, _, _, _, rfl, _⟩ := h
    rfl
  · obtain ⟨a, l, st, xs, rfl, ha, hl, hk, hq⟩ := h
    refine ⟨_, pss_cons (ps_set (i := 2) S.nd rfl (Or.inl rfl) (pe_callTy call_list_of (by rfl) t.list (by decide +kernel) (pa_cons (pv 1) pa_nil)))
      (pss_cons (ps_for PassesOwn.leaving rfl (pi_list (pv 0)) (pg_name (i := 3) S.nd rfl (Or.inl rfl))
        (pss_cons (ps_par (i := 4) (j := 5) (by rfl) S.nd rfl rfl (by decide) rfl rfl (pa_cons (pe_ix ix_list (pv 2) (pe_op op_sub (pv 3) pe_int) (fun _ _ => rfl)) (pa_cons (pe_ix ix_list (pv 2) (pv 3) (fun _ _ => rfl)) pa_nil)) (by rfl))
        (pss_one (ps_if (pt_cmpR op_gt (pv 4) (pv 5) (nomark _))
          (pss_cons (ps_asg (pv 5) (pg_sub (pv 2) (pe_op op_sub (pv 3) pe_int) set_list)) (pss_one (ps_asg (pv 4) (pg_sub (pv 2) (pv 3) set_list)))) pss_nil))))
      (pss_one (ps_ret (pv 2)))), ?_⟩
    refine ⟨_, rfl, l, _, rfl, .inl (SqL.of hl), fun p hp => ?_⟩
    have s1 : Same H (upd H p (.lst (iV xs))) := same_new hp
    refine ⟨_, rfl, a, rfl, ⟨_, SqL.of (s1 _ _ ha)⟩, ?_⟩
    refine for_list (xs := nV st) (fun i σ H' => (∃ u v w, σ = [some (.ref a), some (.ref l), some (.ref p), u, v, w]) ∧ Same H H' ∧ H' p = some (.lst (iV (res (st.take i) xs)))) ⟨⟨_, _, _, rfl⟩, s1, upd_same⟩
      (fun i σ H' _ ⟨_, b, _⟩ => SqL.of (b _ _ ha)) (fun i x σ H' hx ⟨⟨u, v, w', es⟩, b, c⟩ => ?_) (fun σ H' ⟨⟨u, v, w', es⟩, b, c⟩ => ?_)
    · subst es
      have hi : i < st.length := by
        have := (List.getElem?_eq_some_iff.mp hx).1
        simpa using this
      rw [nat_ hi] at hx
      obtain rfl := (Option.some.inj hx).symm
      have hz := hk _ (List.getElem_mem hi)
      have et : res (st.take (i + 1)) xs = stp (res (st.take i) xs) st[i] := by rw [List.take_succ_eq_append_getElem hi, res_snoc]
      have ly := res_len (st.take i) xs
      rw [et]
      generalize st[i] = k at hz
      generalize res (st.take i) xs = ys at c ly
      have e1 : (k : Int) - 1 = ((k - 1 : Nat) : Int) := by omega
      refine ⟨_, rfl, _, rfl, _, _, rfl, rfl, p, _, _, _, rfl, rfl, SqL.of c, (by rw [e1]; exact atI_nat (iat (by omega))), ?_⟩
      refine ⟨_, rfl, _, rfl, p, _, _, _, rfl, rfl, SqL.of c, atI_nat (iat (by omega)), ?_⟩
      refine ⟨_, _, rfl, ?_⟩
      refine ⟨_, rfl, _, rfl, _, _, rfl, rfl, _, rfl, ?_⟩
      refine ite2 (fun z => ?_) (fun z => ?_)
      · have z := of_decide_eq_true z
        have zs : swp ys k = true := decide_eq_true (by omega)
        refine ⟨_, rfl, _, rfl, _, rfl, _, _, rfl, rfl, p, _, _, (k - 1 : Nat), rfl, rfl, c, (by rw [e1, iV_len]; exact ixn (by omega)), ?_⟩
        refine ⟨_, rfl, _, rfl, _, rfl, p, _, _, k, rfl, rfl, upd_same, (by rw [List.length_set, iV_len]; exact ixn (by omega)), ?_⟩
        refine ⟨⟨_, _, _, rfl⟩, fun q o hh => ?_, ?_⟩
        · have hne := ne_of_none hh hp
          exact (upd_ne hne).trans ((upd_ne hne).trans (b q o hh))
        · rw [upd_same, iset, iset]
          unfold stp
          rw [if_pos zs]
      · have z : ¬ gi ys (k - 1) > gi ys k := fun q => z (decide_eq_true q)
        have zs : ¬ swp ys k = true := fun q => z (of_decide_eq_true q)
        refine ⟨⟨_, _, _, rfl⟩, b, ?_⟩
        unfold stp
        rw [if_neg zs]
        exact c
    · subst es
      refine ⟨_, rfl, hq H' p b ?_⟩
      rw [c, List.length_map, List.take_length]
end
end Nw
end
section
/-! Promises of the law's helpers: _law_steps, _law_second. -/
namespace Nw
open PySem PySem.Spec PyProof.Rows L2 ClX
theorem ps_wk {X : Cx} {st : Stmt} {t t' : TS} (h : PS X st t) (i : ∀ D σ H, t' D σ H → t D σ H) : PS X st t' := ⟨fun pins s σ H D I hh => h.run pins s σ H D I (i D σ H hh)⟩
theorem dp_ints {K : PySem.W.Frag} {H : Hp} : ∀ xs : List Int, DpAll K H (iV xs) (xs.map PyData.int)
  | [] => .nil
  | x :: r => .cons (.int x) (dp_ints r)
theorem shaped_ints (xs : List Int) : SeqAt.shaped (.list (xs.map PyData.int)) = true := PySem.W.ke_shaped_ints xs
theorem eqv_nil (ds : List PyData) : PyData.eqv (.list ds) (.list []) = ds.isEmpty := by
  cases ds with
  | nil => rfl
  | cons x r => rfl
theorem nV_iV (st : List Nat) : nV st = iV (st.map fun (k : Nat) => (k : Int)) := by
  unfold nV iV
  rw [List.map_map]
  rfl
theorem OkN.nil {W : Nat} (h1 : 1 ≤ W) (h2 : W ≤ 40) : OkN W [] := ⟨h1, h2, Nat.zero_le _, fun k hk => nomatch hk⟩
theorem OkN.snoc {W : Nat} {st : List Nat} (ok : OkN W st) (hl : st.length < 1000) {k : Nat} (h1 : 1 ≤ k) (h2 : k < W) : OkN W (st ++ [k]) :=
  ⟨ok.lo, ok.hi, by rw [List.length_append, List.length_singleton]; omega, fun j hj => by
    rcases List.mem_append.mp hj with z | z
    · exact ok.at_ j z
    · rw [List.mem_singleton.mp z]
      exact ⟨h1, h2⟩⟩
section
variable {P : Program} {w : World} {K : PySem.W.Frag} {mg : Str → Option Value} {base : Heap}
/-- _law_steps -/
def spLSt : Sp := fun vs H Q _ => ∃ (l : Addr) (W m : Nat), vs = [.ref l, .int (W : Nat), .int (m : Nat)] ∧ Sr H l ∧ 1 ≤ W ∧ W ≤ 40 ∧ m ≤ 100 ∧ ∀ H' p st, Mut l H H' → Sr H' l → H p = none → H' p = some (.lst (nV st)) → OkN W st → st.length ≤ m → Q (.ref p) H'
/-- the source, the list made -/
def InL (H : Hp) (l p : Addr) (W m : Nat) (H' : Hp) (st : List Nat) : Prop := Mut l H H' ∧ Sr H' l ∧ H' p = some (.lst (nV st)) ∧ OkN W st ∧ st.length ≤ m
/-- a statement that may choose the step anew -/
def tMid (H : Hp) (l : Addr) (W m : Nat) : TS := fun D σ H' => ∃ (p : Addr) (way tn s0 : Int) (st : List Nat), σ = [some (.ref l), some (.int (W : Nat)), some (.int (m : Nat)), some (.int way), some (.ref p), some (.int tn), some (.int s0)] ∧ H p = none ∧ InL H l p W m H' st ∧ 2 ≤ W ∧ 1 ≤ s0 ∧ s0 < W ∧
  ∀ (s1 : Int) (H2 : Hp), 1 ≤ s1 → s1 < W → InL H l p W m H2 st → D.nx [some (.ref l), some (.int (W : Nat)), some (.int (m : Nat)), some (.int way), some (.ref p), some (.int tn), some (.int s1)] H2
theorem ok_law_steps (t : Tx K mg base) : Okd P w K mg base 2 d_law_steps ["_law_source_here", "_law_width", "_law_most"] spLSt := by
  have S : FnScope ["_law_source_here", "_law_width", "_law_most", "_law_way", "_law_result_here", "_law_turn", "_law_step"] ["_law_source_here", "_law_width", "_law_most"] d_law_steps.scope := ⟨rfl, rfl, rfl, by decide +kernel, rfl, by decide +kernel, by decide +kernel⟩
  have G : Okd P w K mg base 1 d_law_draw ["_law_source_here", "_law_count"] spDraw := ok_law_draw t
  refine okd_of t 38 rfl S rfl rfl (fun _ _ _ _ _ _ us hl => match us, hl with | [_, _, _], _ => rfl) (fun vs H Q E h => ?_) fun cdv A outer s H vs Q E hr h => ?_
  · obtain ⟨_, _, _, rfl, _⟩ := h
    rfl
  · obtain ⟨l, W, m, rfl, hs, h1, h2, hm, hq⟩ := h
    refine ⟨_, pss_cons (ps_if (pt_cmpR op_eq (pv 1) pe_int (nomark _)) (pss_one (ps_ret (pe_lst pa_nil))) pss_nil)
      (pss_cons (ps_set (i := 3) S.nd rfl (Or.inl rfl) (pe_cl G hr (by rfl) (t.g 32) (pa_cons (pv 0) (pa_cons pe_int pa_nil))))
      (pss_cons (ps_set (i := 4) S.nd rfl (Or.inl rfl) (pe_lst pa_nil))
      (pss_cons (ps_for PassesOwn.leaving rfl (pi_range1 (by rfl) t.range (pa_cons (pe_cl G hr (by rfl) (t.g 32) (pa_cons (pv 0) (pa_cons (pe_op op_add (pv 2) pe_int) pa_nil))) pa_nil)) (pg_name (i := 5) S.nd rfl (Or.inl rfl))
        (pss_cons (ps_set (i := 6) S.nd rfl (Or.inl rfl) (pe_op op_add pe_int (pe_cl G hr (by rfl) (t.g 32) (pa_cons (pv 0) (pa_cons (pe_op op_sub (pv 1) pe_int) pa_nil)))))
        (pss_cons (ps_wk (t' := tMid H l W m) (ps_if (PW.pt (pw_and (pt_cmpR op_eq (pv 3) pe_int (nomark _)) (pw_and1 (pt_cmpR (op_neD hr.units) (pv 4) (pe_lst pa_nil) (nomark _)))))
            (pss_one (ps_set (i := 6) S.nd rfl (Or.inl rfl) (pe_callB (call_min2 rfl) (by rfl) t.min (by decide +kernel) (pa_cons (pe_op op_sub (pv 1) pe_int) (pa_cons (pe_callB (call_max2 rfl) (by rfl) t.max (by decide +kernel) (pa_cons pe_int (pa_cons
              (pe_op op_add (pe_ix ix_list (pv 4) (pe_un un_neg pe_int) (fun _ _ => rfl)) (pe_ix ix_list (pe_lst (pa_cons pe_int (pa_cons pe_int (pa_cons (pe_un un_neg pe_int) (pa_cons pe_int pa_nil))))) (pe_cl G hr (by rfl) (t.g 32) (pa_cons (pv 0) (pa_cons pe_int pa_nil))) (fun _ _ => rfl))) pa_nil))) pa_nil))))) pss_nil) (fun D σ H' hh => by
          obtain ⟨p, way, tn, s0, st, rfl, hp, ⟨i1, i2, i3, i4, i5⟩, hW, a1, a2, nx⟩ := hh
          have hlp : l ≠ p := by
            obtain ⟨A, B, hl⟩ := hs
            exact ne_of_none hl hp
          refine ⟨_, rfl, rfl, _, rfl, ?_⟩
          refine ite2 (fun z => ?_) (fun z => ?_)
          · refine ⟨_, rfl, (by show 0 ≤ sizeLine; decide), fun q hq' => ?_⟩
            have sq : Same H' (upd H' q (.lst [])) := same_new hq'
            have hlq : l ≠ q := by
              obtain ⟨A, B, hl⟩ := i2
              exact ne_of_none hl hq'
            have j1 : InL H l p W m (upd H' q (.lst [])) st := ⟨fun a o hne hh => sq _ _ (i1 a o hne hh), (by obtain ⟨A, B, hl⟩ := i2; exact ⟨A, B, sq _ _ hl⟩), sq _ _ i3, i4, i5⟩
            refine ⟨_, _, .lst (SqL.of (by rw [← nV_iV]; exact sq _ _ i3)) (dp_ints (st.map fun (k : Nat) => (k : Int))), .lst (SqL.of upd_same) .nil, shaped_ints _, shaped_ints [], _, rfl, ?_⟩
            rw [eqv_nil]
            refine ite2 (fun z2 => ?_) (fun z2 => ?_)
            · have hne : st ≠ [] := by
                intro e
                subst e
                cases z2
              obtain ⟨r, k, rfl⟩ : ∃ r k, st = r ++ [k] := ⟨st.dropLast, st.getLast hne, (List.dropLast_concat_getLast hne).symm⟩
              obtain ⟨jm, js, jp, jo, jl⟩ := j1
              have ep : nV (r ++ [k]) = nV r ++ [V.int (k : Nat)] := by unfold nV; rw [List.map_append]; rfl
              refine ⟨_, rfl, _, _, rfl, rfl, ?_⟩
              refine ⟨_, rfl, _, rfl, p, _, _, _, rfl, rfl, SqL.of jp, (by rw [ep]; exact atI_last _ _), ?_⟩
              refine ⟨_, rfl, (by show 4 ≤ sizeLine; decide), fun q2 hq2 => ?_⟩
              generalize ehq : upd H' q (.lst []) = Hq at jm js jp hq2
              have s2 : Same Hq (upd Hq q2 (.lst [V.int 0, V.int 1, V.int (-1), V.int 2])) := same_new hq2
              have hlq2 : l ≠ q2 := by
                obtain ⟨A, B, hl⟩ := js
                exact ne_of_none hl hq2
              refine ⟨_, rfl, l, 4, rfl, (by obtain ⟨A, B, hl⟩ := js; exact ⟨A, B, s2 _ _ hl⟩), by decide, by decide, fun H3 d m3 s3 d0 d1 => ?_⟩
              obtain ⟨c, hc⟩ : ∃ c : Int, atI [V.int 0, V.int 1, V.int (-1), V.int 2] d = some (V.int c) := by
                have : d = 0 ∨ d = 1 ∨ d = 2 ∨ d = 3 := by omega
                rcases this with e | e | e | e <;> subst e
                · exact ⟨0, rfl⟩
                · exact ⟨1, rfl⟩
                · exact ⟨-1, rfl⟩
                · exact ⟨2, rfl⟩
              refine ⟨q2, _, _, _, rfl, rfl, SqL.of (m3 _ _ (Ne.symm hlq2) upd_same), hc, ?_⟩
              refine ⟨_, _, rfl, rfl, _, _, rfl, _, _, rfl, ?_⟩
              refine nx _ H3 ?_ ?_ ⟨fun a o hne hh => m3 _ _ hne (s2 _ _ (jm a o hne hh)), s3, m3 _ _ (Ne.symm hlp) (s2 _ _ jp), jo, jl⟩
              · split <;> split <;> omega
              · split <;> split <;> omega
            · exact nx s0 _ a1 a2 j1
          · exact nx s0 H' a1 a2 ⟨i1, i2, i3, i4, i5⟩))
        (pss_cons (ps_wk (t' := tMid H l W m) (ps_if (pt_cmpR op_eq (pv 3) pe_int (nomark _)) (pss_one (ps_set (i := 6) S.nd rfl (Or.inl rfl) (pe_op op_add pe_int (pe_op op_mod (pv 5) (pe_op op_sub (pv 1) pe_int))))) pss_nil) (fun D σ H' hh => by
          obtain ⟨p, way, tn, s0, st, rfl, hp, ii, hW, a1, a2, nx⟩ := hh
          refine ⟨_, rfl, rfl, _, rfl, ?_⟩
          refine ite2 (fun z => ?_) (fun z => ?_)
          · refine ⟨_, rfl, _, rfl, _, _, rfl, rfl, _, _, rfl, rfl, (by show (0 : Int) < (W : Int) - 1; omega), ?_⟩
            have e0 : 0 ≤ tn % ((W : Int) - 1) := Int.emod_nonneg _ (by omega)
            have e1 : tn % ((W : Int) - 1) < (W : Int) - 1 := Int.emod_lt_of_pos _ (by omega)
            exact ⟨_, _, rfl, rfl, nx _ H' (by omega) (by omega) ii⟩
          · exact nx s0 H' a1 a2 ii))
        (pss_one (ps_expr (pe_bm PySem.F.plainAttrs_list PySem.F.slot_list_append PySem.F.type_list_append mt_append (pv 4) (pa_cons (pv 6) pa_nil))))))))
      (pss_one (ps_ret (pv 4)))))), ?_⟩
    obtain ⟨A0, B0, hl0⟩ := hs
    refine ⟨_, rfl, rfl, _, rfl, ?_⟩
    refine ite2 (fun z => ?_) (fun z => ?_)
    · refine ⟨(by show 0 ≤ sizeLine; decide), fun p hp => ?_⟩
      exact hq _ p [] (fun a o _ hh => same_new hp _ _ hh) ⟨A0, B0, same_new hp _ _ hl0⟩ hp upd_same (OkN.nil h1 h2) (Nat.zero_le _)
    · have hW : 2 ≤ W := by
        rcases Nat.lt_or_ge W 2 with q | q
        · have : W = 1 := by omega
          subst this
          exact absurd rfl z
        · exact q
      refine ⟨_, rfl, l, 4, rfl, ⟨A0, B0, hl0⟩, by decide, by decide, fun H1 way m1 s1 w0 w1 => ?_⟩
      refine ⟨(by show 0 ≤ sizeLine; decide), fun p hp => ?_⟩
      have fp : H p = none := by
        cases e : H p with
        | none => rfl
        | some o =>
          by_cases hpl : p = l
          · subst hpl
            obtain ⟨A, B, hl⟩ := s1
            rw [hl] at hp
            cases hp
          · rw [m1 _ _ hpl e] at hp
            cases hp
      have hlp : l ≠ p := ne_of_none hl0 fp
      have i1 : InL H l p W m (upd H1 p (.lst [])) [] := ⟨fun a o hne hh => same_new hp _ _ (m1 a o hne hh), (by obtain ⟨A, B, hl⟩ := s1; exact ⟨A, B, same_new hp _ _ hl⟩), upd_same, OkN.nil h1 h2, Nat.zero_le _⟩
      refine ⟨_, rfl, _, rfl, _, _, rfl, rfl, l, _, rfl, i1.2.1, (by omega), (by omega), fun H2 cnt m2 s2 c0 c1 => ?_⟩
      refine ⟨cnt, rfl, by omega, by omega, ?_⟩
      refine for_range (n := cnt.toNat) (fun i σ H' => (∃ u v, σ = [some (.ref l), some (.int (W : Nat)), some (.int (m : Nat)), some (.int way), some (.ref p), u, v]) ∧ ∃ st, InL H l p W m H' st ∧ st.length ≤ i)
        ⟨⟨_, _, rfl⟩, [], ⟨fun a o hne hh => m2 _ _ hne (i1.1 a o hne hh), s2, m2 _ _ (Ne.symm hlp) i1.2.2.1, OkN.nil h1 h2, Nat.zero_le _⟩, Nat.zero_le _⟩ (fun i σ H3 hi ⟨⟨u, v, es⟩, st, ⟨k1, k2, k3, k4, k5⟩, k6⟩ => ?_) (fun σ H3 ⟨⟨u, v, es⟩, st, ⟨k1, k2, k3, k4, k5⟩, k6⟩ => ?_)
      · subst es
        refine ⟨_, rfl, _, rfl, _, _, rfl, rfl, l, _, rfl, k2, (by omega), (by omega), fun H4 d m4 s4 d0 d1 => ?_⟩
        refine ⟨_, _, rfl, rfl, ?_⟩
        refine ⟨p, way, _, _, st, rfl, fp, ⟨fun a o hne hh => m4 _ _ hne (k1 a o hne hh), s4, m4 _ _ (Ne.symm hlp) k3, k4, k5⟩, hW, (by omega), (by omega), fun s5 H5 b1 b2 i5 => ?_⟩
        refine ⟨p, way, _, _, st, rfl, fp, i5, hW, b1, b2, fun s6 H6 b3 b4 i6 => ?_⟩
        obtain ⟨g1, g2, g3, g4, g5⟩ := i6
        refine ⟨_, rfl, .inl ⟨rfl, _, SqL.of g3⟩, _, rfl, p, _, _, rfl, rfl, g3, ?_, ⟨_, _, rfl⟩, st ++ [s6.toNat], ⟨fun a o hne hh => ?_, ?_, ?_, ?_, ?_⟩, ?_⟩
        · rw [nV_len]
          exact small1000 (by omega)
        · exact (upd_ne (ne_of_none hh fp)).trans (g1 a o hne hh)
        · obtain ⟨A, B, hl⟩ := g2
          exact ⟨A, B, (upd_ne hlp).trans hl⟩
        · rw [upd_same, nV, nV, List.map_append, List.map_cons, List.map_nil, show ((s6.toNat : Nat) : Int) = s6 by omega]
        · exact g4.snoc (by omega) (by omega) (by omega)
        · rw [List.length_append, List.length_singleton]
          omega
        · rw [List.length_append, List.length_singleton]
          omega
      · subst es
        exact ⟨_, rfl, hq H3 p st k1 k2 fp k3 k4 k5⟩
end
end Nw
end
section
/-! Promises of the law's helpers: _law_second, _law_is_as_far. -/
namespace Nw
open PySem PySem.Spec PyProof.Rows L2 ClX
/-- the counts of ones from the left are nowhere greater -/
def asFar (xs ys : List Int) : Prop := ∀ p : Nat, 1 ≤ p → p ≤ xs.length → (xs.take p).sum ≤ (ys.take p).sum
section
variable {P : Program} {w : World} {K : PySem.W.Frag} {mg : Str → Option Value} {base : Heap}
/-- _law_second -/
def spSec : Sp := fun vs H Q _ => ∃ (l f : Addr) (W m : Nat) (st : List Nat), vs = [.ref l, .int (W : Nat), .ref f, .int (m : Nat)] ∧ Sr H l ∧ H f = some (.lst (nV st)) ∧ f ≠ l ∧ OkN W st ∧ st.length < 1000 ∧ m ≤ 100 ∧
  ∀ H' p st', Mut l H H' → Sr H' l → H p = none → H' p = some (.lst (nV st')) → OkN W st' → st'.length ≤ max m st.length → Q (.ref p) H'
theorem ok_law_second (t : Tx K mg base) : Okd P w K mg base 3 d_law_second ["_law_source_here", "_law_width", "_law_first", "_law_most"] spSec := by
  have S : FnScope ["_law_source_here", "_law_width", "_law_first", "_law_most", "_law_step"] ["_law_source_here", "_law_width", "_law_first", "_law_most"] d_law_second.scope := ⟨rfl, rfl, rfl, by decide +kernel, rfl, by decide +kernel, by decide +kernel⟩
  have G : Okd P w K mg base 2 d_law_draw ["_law_source_here", "_law_count"] spDraw := okd_mono (ok_law_draw t) (by decide)
  have G2 : Okd P w K mg base 2 d_law_steps ["_law_source_here", "_law_width", "_law_most"] spLSt := ok_law_steps t
  refine okd_of t 43 rfl S rfl rfl (fun _ _ _ _ _ _ us hl => match us, hl with | [_, _, _, _], _ => rfl) (fun vs H Q E h => ?_) fun cdv A outer s H vs Q E hr h => ?_
  · obtain ⟨_, _, _, _, _, rfl, _⟩ := h
    rfl
  · obtain ⟨l, f, W, m, st, rfl, hs, hf, hfl, ok, hlen, hm, hq⟩ := h
    refine ⟨_, pss_cons (ps_if (pt_cmpR op_eq (pe_cl G hr (by rfl) (t.g 32) (pa_cons (pv 0) (pa_cons pe_int pa_nil))) pe_int (nomark _)) (pss_one (ps_ret (pe_cl G2 hr (by rfl) (t.g 33) (pa_cons (pv 0) (pa_cons (pv 1) (pa_cons (pv 3) pa_nil)))))) pss_nil)
      (pss_one (ps_ret (pe_lc (own := [("_law_step", 4)]) (g := gName 4) rfl S.nd (pi_list (pv 2)) (blkOk_by (N := ["_law_source_here", "_law_width", "_law_first", "_law_most", "_law_step"]) (sc := d_law_second.scope) (by decide +kernel))
        (fun _ _ _ _ _ => pg_name (i := 4) S.nd rfl (Or.inl rfl)) (fun _ _ _ _ _ => pts_one (pt_cmpR op_gt (pe_cl G hr (by rfl) (t.g 32) (pa_cons (pv 0) (pa_cons pe_int pa_nil))) pe_int (nomark _))) (fun _ _ _ _ _ => pv 4)))), ?_⟩
    refine ⟨_, rfl, l, 2, rfl, hs, by decide, by decide, fun H1 d m1 s1 d0 d1 => ?_⟩
    refine ⟨rfl, _, rfl, ?_⟩
    have back : ∀ {p : Addr}, H1 p = none → H p = none := fun {p} hp => by
      cases e : H p with
      | none => rfl
      | some o =>
        by_cases hpl : p = l
        · subst hpl
          obtain ⟨A, B, hl⟩ := s1
          rw [hl] at hp
          cases hp
        · rw [m1 _ _ hpl e] at hp
          cases hp
    refine ite2 (fun z => ?_) (fun z => ?_)
    · refine ⟨_, rfl, _, rfl, _, rfl, l, W, m, rfl, s1, ok.lo, ok.hi, hm, fun H2 p st' m2 s2 fp hp ok' hl' => ?_⟩
      exact hq H2 p st' (fun a o hne hh => m2 _ _ hne (m1 a o hne hh)) s2 (back fp) hp ok' (by omega)
    · have hf1 := m1 _ _ hfl hf
      refine ⟨_, rfl, f, rfl, ⟨_, SqL.of hf1⟩, fun D hD => ?_⟩
      have fD := back hD
      have hlD : l ≠ D := by
        obtain ⟨A, B, hl⟩ := s1
        exact ne_of_none hl hD
      refine lc_list (xs := nV st) (fun i H' => Mut l H H' ∧ Sr H' l ∧ ∃ st', H' D = some (.lst (nV st')) ∧ OkN W st' ∧ st'.length ≤ i)
        ⟨fun a o hne hh => same_new hD _ _ (m1 a o hne hh), (by obtain ⟨A, B, hl⟩ := s1; exact ⟨A, B, same_new hD _ _ hl⟩), [], upd_same, OkN.nil ok.lo ok.hi, Nat.zero_le _⟩ (fun i H' _ ⟨b, _⟩ => SqL.of (b _ _ hfl hf)) (fun i x H' hx ⟨b0, b1, st', b2, b3, b4⟩ => ?_) (fun H' ⟨b0, b1, st', b2, b3, b4⟩ => ?_)
      · have hi : i < st.length := by
          have := (List.getElem?_eq_some_iff.mp hx).1
          simpa using this
        rw [nat_ hi] at hx
        obtain rfl := (Option.some.inj hx).symm
        refine ⟨rfl, ?_⟩
        refine ⟨_, rfl, l, 4, rfl, b1, by decide, by decide, fun H3 r m3 s3 r0 r1 => ?_⟩
        refine ⟨_, _, rfl, rfl, _, rfl, ?_⟩
        have hz := ok.at_ _ (List.getElem_mem hi)
        refine ite2 (fun z => ?_) (fun z => ?_)
        · refine ⟨_, rfl, _, m3 _ _ (Ne.symm hlD) b2, ?_, fun a o hne hh => (upd_ne (ne_of_none hh fD)).trans (m3 _ _ hne (b0 a o hne hh)), ?_, st' ++ [st[i]], ?_, b3.snoc (by omega) hz.1 hz.2, ?_⟩
          · rw [nV_len]
            exact small1000 (by omega)
          · obtain ⟨A, B, hl⟩ := s3
            exact ⟨A, B, (upd_ne hlD).trans hl⟩
          · rw [upd_same, nV, nV, List.map_append, List.map_cons, List.map_nil]
          · rw [List.length_append, List.length_singleton]
            omega
        · exact ⟨fun a o hne hh => m3 _ _ hne (b0 a o hne hh), s3, st', m3 _ _ (Ne.symm hlD) b2, b3, by omega⟩
      · rw [nV_len] at b4
        exact hq H' D st' b0 b1 fD b2 b3 (by omega)
/-- _law_is_as_far -/
def spFar : Sp := fun vs H Q _ => ∃ (l l' : Addr) (xs ys : List Int), vs = [.ref l, .ref l'] ∧ H l = some (.lst (iV xs)) ∧ H l' = some (.lst (iV ys)) ∧ xs.length ≤ 1000 ∧ ∀ H' b, Same H H' → (b = true ↔ asFar xs ys) → Q (.bl b) H'
theorem ok_law_is_as_far (t : Tx K mg base) : Okd P w K mg base 1 d_law_is_as_far ["_law_one", "_law_other"] spFar := by
  have S : FnScope ["_law_one", "_law_other", "_law_place"] ["_law_one", "_law_other"] d_law_is_as_far.scope := ⟨rfl, rfl, rfl, by decide +kernel, rfl, by decide +kernel, by decide +kernel⟩
  refine okd_of t 41 rfl S rfl rfl (fun _ _ _ _ _ _ us hl => match us, hl with | [_, _], _ => rfl) (fun vs H Q E h => ?_) fun cdv A outer s H vs Q E hr h => ?_
  · obtain ⟨_, _, _, _, rfl, _⟩ := h
    rfl
  · obtain ⟨l, l', xs, ys, rfl, hl, hl', hx, hq⟩ := h
    refine ⟨_, pss_cons (ps_for PassesOwn.leaving rfl (pi_range2 (by rfl) t.range (pa_cons pe_int (pa_cons (pe_op op_add (pe_callB call_len_seq (by rfl) t.len PySem.boot_len (pa_cons (pv 0) pa_nil)) pe_int) pa_nil))) (pg_name (i := 2) S.nd rfl (Or.inl rfl))
      (pss_one (ps_if (pt_cmpR op_gt (pe_callB (cr_sum rfl) (by rfl) t.sum (by decide +kernel) (pa_cons (pe_slice sl_list (pv 0) po_none (po_some (pv 2))) pa_nil)) (pe_callB (cr_sum rfl) (by rfl) t.sum (by decide +kernel) (pa_cons (pe_slice sl_list (pv 1) po_none (po_some (pv 2))) pa_nil)) (nomark _)) (pss_one (ps_ret pe_bl)) pss_nil)))
      (pss_one (ps_ret pe_bl)), ?_⟩
    refine ⟨_, rfl, l, _, rfl, .inl (SqL.of hl), _, _, rfl, rfl, 1, _, rfl, by rw [iV_len]; omega, ?_⟩
    rw [iV_len]
    refine for_range (n := ((xs.length : Int) + 1 - 1).toNat) (fun i σ H' => (∃ u, σ = [some (.ref l), some (.ref l'), u]) ∧ Same H H' ∧ ∀ p : Nat, 1 ≤ p → p ≤ i → (xs.take p).sum ≤ (ys.take p).sum) ⟨⟨_, rfl⟩, Same.refl _, fun p h1 h2 => absurd h2 (by omega)⟩ (fun i σ H1 hi ⟨⟨u, es⟩, b1, b2⟩ => ?_) (fun σ H1 ⟨⟨u, es⟩, b1, b2⟩ => ?_)
    · subst es
      have ei : (1 : Int) + (i : Nat) = ((i + 1 : Nat) : Int) := by omega
      rw [ei]
      refine ⟨_, rfl, _, rfl, _, rfl, l, _, rfl, SqL.of (b1 _ _ hl), fun q hq1 => ?_⟩
      rw [cut_any]
      have s1 : Same H1 (upd H1 q (.lst (iV (xs.take (i + 1))))) := same_new hq1
      refine ⟨q, _, rfl, SqL.of upd_same, ?_⟩
      refine ⟨_, rfl, _, rfl, _, rfl, l', _, rfl, SqL.of (s1 _ _ (b1 _ _ hl')), fun q2 hq2 => ?_⟩
      rw [cut_any]
      have s2 := same_new (o := .lst (iV (ys.take (i + 1)))) hq2
      refine ⟨q2, _, rfl, SqL.of upd_same, ?_⟩
      refine ⟨_, _, rfl, rfl, _, rfl, ?_⟩
      refine ite2 (fun z => ?_) (fun z => ?_)
      · have z := of_decide_eq_true z
        refine hq _ false (b1.trans (s1.trans s2)) ⟨fun h => (nomatch h), fun h => ?_⟩
        have := h (i + 1) (by omega) (by omega)
        omega
      · have z : ¬ _ := fun q => z (decide_eq_true q)
        refine ⟨⟨_, rfl⟩, b1.trans (s1.trans s2), fun p h1 h2 => ?_⟩
        rcases Nat.lt_or_eq_of_le h2 with h3 | h3
        · exact b2 p h1 (by omega)
        · subst h3
          omega
    · exact hq H1 true b1 ⟨fun _ p h1 h2 => b2 p h1 (by omega), fun _ => rfl⟩
end
end Nw
end
section
/-! Promises of the law's helpers: _law_bits. -/
namespace Nw
open PySem PySem.Spec PyProof.Rows L2 ClX
/-- the bits of n from the lowest -/
def bitRow (W n : Nat) : List Int := (List.range W).map fun (i : Nat) => ((n / 2 ^ i % 2 : Nat) : Int)
/-- a list of lists of ints -/
def LI (H : Hp) (p : Addr) (Ls : List (List Int)) : Prop := ∃ as : List Addr, H p = some (.lst (as.map V.ref)) ∧ as.length = Ls.length ∧ ∀ (i : Nat) (a : Addr) (L : List Int), as[i]? = some a → Ls[i]? = some L → H a = some (.lst (iV L))
def bits (W : Nat) : List (List Int) := (List.range (2 ^ W)).map (bitRow W)
section
variable {P : Program} {w : World} {K : PySem.W.Frag} {mg : Str → Option Value} {base : Heap}
def spBits : Sp := fun vs H Q _ => ∃ W : Nat, vs = [.int (W : Nat)] ∧ W ≤ 5 ∧ ∀ H' p, Same H H' → LI H' p (bits W) → Q (.ref p) H'
theorem ok_law_bits (t : Tx K mg base) : Okd P w K mg base 1 d_law_bits ["_law_width"] spBits := by
  have S : FnScope ["_law_width", "_law_number", "_law_place"] ["_law_width"] d_law_bits.scope := ⟨rfl, rfl, rfl, by decide +kernel, rfl, by decide +kernel, by decide +kernel⟩
  refine okd_of t 40 rfl S rfl rfl (fun _ _ _ _ _ _ us hl => match us, hl with | [_], _ => rfl) (fun vs H Q E h => ?_) fun cdv A outer s H vs Q E hr h => ?_
  · obtain ⟨_, rfl, _⟩ := h
    rfl
  · obtain ⟨W, rfl, hW, hq⟩ := h
    refine ⟨_, pss_one (ps_ret (pe_lc (own := [("_law_number", 1)]) (g := gName 1) (tt := tYes) (te := tLc (iRng1 (tCons (tVar 0) tNil)) (gName 2) tYes (tOp (rI0 fun i j => .int (Builtin.bitAnd i j)) (tOp (rI (fun _ j => 0 ≤ j) fun i j => .int (i / 2 ^ j.toNat)) (tVar 1) (tVar 2)) (tC (.int 1))) [2]) rfl S.nd (pi_range1 (by rfl) t.range (pa_cons (pe_op op_shl pe_int (pv 0)) pa_nil)) (blkOk_by (N := ["_law_width", "_law_number", "_law_place"]) (sc := d_law_bits.scope) (by decide +kernel))
      (fun _ _ _ _ _ => pg_name (i := 1) S.nd rfl (Or.inr rfl)) (fun _ _ _ _ _ => pts_nil)
      (fun _ _ _ _ _ => pe_lc (own := [("_law_place", 2)]) (g := gName 2) (tt := tYes) rfl S.nd (pi_range1 (by rfl) t.range (pa_cons (pv 0) pa_nil)) (blkOk_by (N := ["_law_width", "_law_number", "_law_place"]) (by rfl))
        (fun _ _ _ _ _ => pg_name (i := 2) S.nd rfl (Or.inl rfl)) (fun _ _ _ _ _ => pts_nil) (fun _ _ _ _ _ => pe_op op_and (pe_op op_shr (pv 1) (pv 2)) pe_int)))), ?_⟩
    have e2 : ∀ n : Nat, (1 : Int) * 2 ^ (n : Int).toNat = ((2 ^ n : Nat) : Int) := fun n => by simp
    have h32 : 2 ^ W ≤ 32 := Nat.pow_le_pow_right (n := 2) (by decide) hW
    refine ⟨_, rfl, _, _, rfl, rfl, ⟨by omega, by omega, by decide⟩, ?_⟩
    obtain ⟨N, eN, hN, e5⟩ : ∃ N : Nat, N = 2 ^ W ∧ N ≤ 32 ∧ (1 : Int) * 2 ^ (W : Int).toNat = (N : Int) := ⟨2 ^ W, rfl, h32, e2 W⟩
    have e6 : ((1 : Int) * 2 ^ (W : Int).toNat).toNat = N := by rw [e5, Int.toNat_natCast]
    refine ⟨(1 : Int) * 2 ^ (W : Int).toNat, rfl, by rw [e5]; omega, by rw [e5]; omega, fun D hD => ?_⟩
    refine lc_range (lo := 0) (n := ((1 : Int) * 2 ^ (W : Int).toNat).toNat) (fun i H' => Same H H' ∧ ∃ as : List Addr, H' D = some (.lst (as.map V.ref)) ∧ as.length = i ∧ ∀ (j : Nat) (b : Addr), as[j]? = some b → b ≠ D ∧ H' b = some (.lst (iV (bitRow W j))))
      ⟨same_new hD, [], upd_same, rfl, fun j b h => nomatch h⟩ (fun i H' hi ⟨b0, as, b2, b3, b4⟩ => ?_) (fun H' ⟨b0, as, b2, b3, b4⟩ => ?_)
    · refine ⟨rfl, ?_⟩
      refine ⟨_, rfl, _, rfl, by omega, by omega, fun q hq1 => ?_⟩
      have hDq : D ≠ q := ne_of_none b2 hq1
      have sq : Same H' (upd H' q (.lst [])) := same_new hq1
      refine lc_range (lo := 0) (n := (W : Int).toNat) (fun j H3 => Same H' H3 ∧ H3 q = some (.lst (iV ((List.range j).map fun (k : Nat) => ((i / 2 ^ k % 2 : Nat) : Int))))) ⟨sq, upd_same⟩ (fun j H3 hj ⟨c0, c1⟩ => ?_) (fun H3 ⟨c0, c1⟩ => ?_)
      · refine ⟨rfl, ?_⟩
        refine ⟨_, rfl, _, rfl, _, _, rfl, rfl, (by show (0 : Int) ≤ 0 + (j : Nat); omega), ?_⟩
        refine ⟨_, _, rfl, rfl, ?_⟩
        have ev : Builtin.bitAnd ((0 + (i : Nat) : Int) / 2 ^ ((0 + (j : Nat) : Int)).toNat) 1 = ((i / 2 ^ j % 2 : Nat) : Int) := by
          rw [PyProof.Rows.bitAnd_m1, Int.zero_add, Int.zero_add, Int.toNat_natCast]
          simp
        refine ⟨_, c1, ?_, fun a o hh => (upd_ne (ne_of_none hh hq1)).trans (c0 a o hh), ?_⟩
        · rw [iV_len, List.length_map, List.length_range]
          exact small1000 (by omega)
        · rw [upd_same]
          show some (HO.lst (iV _ ++ [V.int (Builtin.bitAnd ((0 + (i : Nat) : Int) / 2 ^ ((0 + (j : Nat) : Int)).toNat) 1)])) = _
          rw [ev, List.range_succ, List.map_append, List.map_cons, List.map_nil, iV, iV, List.map_append]
          rfl
      · refine ⟨_, c0 _ _ b2, ?_, fun a o hh => (upd_ne (ne_of_none hh hD)).trans (c0 _ _ (b0 a o hh)), as ++ [q], ?_, ?_, fun j b hj => ?_⟩
        · rw [List.length_map]
          exact small1000 (by omega)
        · rw [upd_same, List.map_append]
          rfl
        · rw [List.length_append, List.length_singleton, b3]
        · rcases Nat.lt_or_ge j as.length with h | h
          · rw [List.getElem?_append_left h] at hj
            obtain ⟨g1, g2⟩ := b4 j b hj
            exact ⟨g1, (upd_ne g1).trans (c0 _ _ g2)⟩
          · rw [List.getElem?_append_right h] at hj
            have ej : j - as.length = 0 := by
              rcases Nat.eq_zero_or_pos (j - as.length) with z | z
              · exact z
              · rw [List.getElem?_eq_none (by simp; omega)] at hj
                cases hj
            rw [ej] at hj
            obtain rfl := Option.some.inj hj
            refine ⟨Ne.symm hDq, (upd_ne (Ne.symm hDq)).trans ?_⟩
            rw [show j = i by omega]
            rw [Int.toNat_natCast] at c1
            exact c1
    · refine hq H' D b0 ⟨as, b2, ?_, fun i b L h1 h2 => ?_⟩
      · unfold bits
        rw [b3, List.length_map, List.length_range, e6, eN]
      · unfold bits at h2
        rw [List.getElem?_map] at h2
        obtain ⟨g1, g2⟩ := b4 i b h1
        have hi : i < 2 ^ W := by
          have := (List.getElem?_eq_some_iff.mp h1).1
          omega
        rw [List.getElem?_range hi] at h2
        obtain rfl := Option.some.inj h2
        exact g2
end
end Nw
end
section
/-! Promises of the law's helpers: _law_all_bits. -/
namespace Nw
open PySem PySem.Spec PyProof.Rows L2 ClX
def allFar (W : Nat) (st st' : List Nat) : Prop := ∀ n : Nat, n < 2 ^ W → asFar (res st (bitRow W n)) (res st' (bitRow W n))
theorem bitRow_len (W n : Nat) : (bitRow W n).length = W := by unfold bitRow; simp
section
variable {P : Program} {w : World} {K : PySem.W.Frag} {mg : Str → Option Value} {base : Heap}
def spAllB : Sp := fun vs H Q _ => ∃ (f g : Addr) (W : Nat) (st st' : List Nat), vs = [.int (W : Nat), .ref f, .ref g] ∧ H f = some (.lst (nV st)) ∧ H g = some (.lst (nV st')) ∧ OkN W st ∧ OkN W st' ∧ W ≤ 5 ∧ ∀ H' b, Same H H' → (b = true ↔ allFar W st st') → Q (.bl b) H'
theorem ok_law_all_bits (t : Tx K mg base) : Okd P w K mg base 2 d_law_all_bits ["_law_width", "_law_first", "_law_second_here"] spAllB := by
  have S : FnScope ["_law_width", "_law_first", "_law_second_here", "_law_row", "_law_one", "_law_other"] ["_law_width", "_law_first", "_law_second_here"] d_law_all_bits.scope := ⟨rfl, rfl, rfl, by decide +kernel, rfl, by decide +kernel, by decide +kernel⟩
  have G1 : Okd P w K mg base 1 d_law_bits ["_law_width"] spBits := ok_law_bits t
  have G2 : Okd P w K mg base 1 d_law_result ["_law_steps_here", "_law_values"] spLRes := ok_law_result t
  have G3 : Okd P w K mg base 1 d_law_is_as_far ["_law_one", "_law_other"] spFar := ok_law_is_as_far t
  refine okd_of t 42 rfl S rfl rfl (fun _ _ _ _ _ _ us hl => match us, hl with | [_, _, _], _ => rfl) (fun vs H Q E h => ?_) fun cdv A outer s H vs Q E hr h => ?_
  · obtain ⟨_, _, _, _, _, rfl, _⟩ := h
    rfl
  · obtain ⟨f, g, W, st, st', rfl, hf, hg, ok, ok', hW, hq⟩ := h
    refine ⟨_, pss_cons (ps_for PassesOwn.leaving rfl (pi_list (pe_cl G1 hr (by rfl) (t.g 35) (pa_cons (pv 0) pa_nil))) (pg_name (i := 3) S.nd rfl (Or.inl rfl))
        (pss_cons (ps_par (i := 4) (j := 5) (by rfl) S.nd rfl rfl (by decide) rfl rfl (pa_cons (pe_cl G2 hr (by rfl) (t.g 34) (pa_cons (pv 1) (pa_cons (pv 3) pa_nil))) (pa_cons (pe_cl G2 hr (by rfl) (t.g 34) (pa_cons (pv 2) (pa_cons (pv 3) pa_nil))) pa_nil)) (by rfl))
        (pss_one (ps_if (pt_not (pt_val (pe_cl G3 hr (by rfl) (t.g 36) (pa_cons (pv 4) (pa_cons (pv 5) pa_nil))))) (pss_one (ps_ret pe_bl)) pss_nil))))
      (pss_one (ps_ret pe_bl)), ?_⟩
    refine ⟨_, rfl, W, rfl, hW, fun H1 p s1 hp => ?_⟩
    obtain ⟨as, p1, p2, p3⟩ := hp
    have hn : as.length = 2 ^ W := by rw [p2]; unfold bits; simp
    refine ⟨p, rfl, ⟨_, SqL.of p1⟩, ?_⟩
    refine for_list (xs := as.map V.ref) (fun i σ H' => (∃ u v x, σ = [some (.int (W : Nat)), some (.ref f), some (.ref g), u, v, x]) ∧ Same H1 H' ∧ ∀ n : Nat, n < i → asFar (res st (bitRow W n)) (res st' (bitRow W n))) ⟨⟨_, _, _, rfl⟩, Same.refl _, fun n h => absurd h (by omega)⟩
      (fun i σ H' _ ⟨_, b, _⟩ => SqL.of (b _ _ p1)) (fun i x σ H' hx ⟨⟨u, v, x', es⟩, b, c⟩ => ?_) (fun σ H' ⟨⟨u, v, x', es⟩, b, c⟩ => ?_)
    · subst es
      have hi : i < as.length := by
        have := (List.getElem?_eq_some_iff.mp hx).1
        simpa using this
      rw [List.getElem?_map, List.getElem?_eq_getElem hi] at hx
      obtain rfl := (Option.some.inj hx).symm
      have hrow := p3 i as[i] (bitRow W i) (List.getElem?_eq_getElem hi) (by unfold bits; rw [List.getElem?_map, List.getElem?_range (by omega)]; rfl)
      refine ⟨_, rfl, _, rfl, f, as[i], st, _, rfl, b _ _ (s1 _ _ hf), b _ _ hrow, fun k hk => by rw [bitRow_len]; exact ok.at_ k hk, fun H2 q s2 hq2 => ?_⟩
      refine ⟨_, rfl, _, rfl, g, as[i], st', _, rfl, s2 _ _ (b _ _ (s1 _ _ hg)), s2 _ _ (b _ _ hrow), fun k hk => by rw [bitRow_len]; exact ok'.at_ k hk, fun H3 q' s3 hq3 => ?_⟩
      refine ⟨_, _, rfl, ?_⟩
      refine ⟨_, rfl, _, rfl, q, q', _, _, rfl, s3 _ _ hq2, hq3, by rw [res_len, bitRow_len]; omega, fun H4 r s4 hr4 => ?_⟩
      refine ⟨r, rfl, ?_⟩
      have sAll : Same H1 H4 := b.trans (s2.trans (s3.trans s4))
      cases r with
      | true =>
        refine iteF ?_
        refine ⟨⟨_, _, _, rfl⟩, sAll, fun n hn' => ?_⟩
        rcases Nat.lt_or_eq_of_le (Nat.le_of_lt_succ hn') with h3 | h3
        · exact c n h3
        · subst h3
          exact hr4.mp rfl
      | false =>
        refine iteT ?_
        exact hq H4 false (s1.trans sAll) ⟨fun h => (nomatch h), fun h => (hr4.mpr (h i (by omega)))⟩
    · subst es
      rw [List.length_map] at c
      exact hq H' true (s1.trans b) ⟨fun _ n h => c n (by omega), fun _ => rfl⟩
end
end Nw
end
section
/-! Promises of the law's helpers: _law_limits_hold. -/
namespace Nw
open PySem PySem.Spec PyProof.Rows L2 ClX
def less (L L' : List Nat) : List Nat := ((L.zip L').filter fun p => decide (p.1 < p.2)).map (·.1)
def limsOk (W : Nat) (st st' : List Nat) : Prop := ∀ i : Nat, i < W - 1 → less (plc (har W st) (1 + (i : Int))) (plc (har W st') (1 + (i : Int))) = []
theorem plc_len (xs : List Int) (c : Int) : (plc xs c).length ≤ xs.length := by
  unfold plc
  rw [List.length_map]
  have := List.length_filter_le (fun i => decide (gi xs i ≤ c)) (List.range xs.length)
  rw [List.length_range] at this
  exact this
section
variable {P : Program} {w : World} {K : PySem.W.Frag} {mg : Str → Option Value} {base : Heap}
def spLimH (K : PySem.W.Frag) : Sp := fun vs H Q _ => ∃ (a a' : Addr) (W : Nat) (st st' : List Nat), vs = [.ref a, .ref a'] ∧ Net K H a W st ∧ Net K H a' W st' ∧ OkN W st ∧ OkN W st' ∧ ∀ H' b, Same H H' → (b = true ↔ limsOk W st st') → Q (.bl b) H'
theorem ok_law_limits_hold (t : Tx K mg base) : Okd P w K mg base 8 d_law_limits_hold ["_law_one", "_law_two"] (spLimH K) := by
  have S : FnScope ["_law_one", "_law_two", "_law_bound", "_law_other", "_law_place", "_law_less"] ["_law_one", "_law_two"] d_law_limits_hold.scope := ⟨rfl, rfl, rfl, by decide +kernel, rfl, by decide +kernel, by decide +kernel⟩
  have G1 : Okd P w K mg base 7 d_limits ["network"] (spLim K) := ok_limits t
  refine okd_of t 44 rfl S rfl rfl (fun _ _ _ _ _ _ us hl => match us, hl with | [_, _], _ => rfl) (fun vs H Q E h => ?_) fun cdv A outer s H vs Q E hr h => ?_
  · obtain ⟨_, _, _, _, _, rfl, _⟩ := h
    rfl
  · obtain ⟨a, a', W, st, st', rfl, n, n', ok, ok', hq⟩ := h
    refine ⟨_, pss_cons (ps_for PassesOwn.leaving rfl (RZ.pi_zipA (by rfl) t.zip (pa_cons (pe_cl G1 hr (by rfl) (t.g 24) (pa_cons (pv 0) pa_nil)) (pa_cons (pe_cl G1 hr (by rfl) (t.g 24) (pa_cons (pv 1) pa_nil)) pa_nil))) (pg_tup (by rfl) (pgs_cons (pg_name (i := 2) S.nd rfl (Or.inl rfl)) (pgs_cons (pg_name (i := 3) S.nd rfl (Or.inl rfl)) pgs_nil)))
        (pss_one (ps_if (pt_cmpR (op_neD hr.units) (pe_lc (own := [("_law_place", 4), ("_law_less", 5)]) rfl S.nd (RZ.pi_zipA (by rfl) t.zip (pa_cons (pv 2) (pa_cons (pv 3) pa_nil)))
            (blkOk_by (N := ["_law_one", "_law_two", "_law_bound", "_law_other", "_law_place", "_law_less"]) (sc := d_law_limits_hold.scope) (by decide +kernel))
            (fun _ _ _ _ _ => pg_tupK (K := K) (n := 2) (by rfl) (pgs_cons (pg_name (i := 4) S.nd rfl (Or.inl rfl)) (pgs_cons (pg_name (i := 5) S.nd rfl (Or.inl rfl)) pgs_nil))) (fun _ _ _ _ _ => pts_one (pt_cmpR op_lt (pv 4) (pv 5) (nomark _))) (fun _ _ _ _ _ => pv 4)) (pe_lst pa_nil) (nomark _))
          (pss_one (ps_ret pe_bl)) pss_nil)))
      (pss_one (ps_ret pe_bl)), ?_⟩
    refine ⟨_, rfl, a, W, st, rfl, n, ok, fun H1 p s1 hp => ?_⟩
    refine ⟨_, rfl, a', W, st', rfl, n'.same s1, ok', fun H2 p' s2 hp' => ?_⟩
    obtain ⟨as, p1, p2, p3⟩ := hp
    obtain ⟨as', p1', p2', p3'⟩ := hp'
    have hn : as.length = W - 1 := by rw [p2]; unfold lims; simp
    have hn' : as'.length = W - 1 := by rw [p2']; unfold lims; simp
    refine ⟨p, p', _, _, rfl, .inl ⟨SqL.of (s2 _ _ p1), SqL.of p1', ?_⟩⟩
    refine RZ.for_zipL (xs := as.map V.ref) (ys := as'.map V.ref) (by simp [hn, hn']) (fun i σ H' => (∃ u v x y, σ = [some (.ref a), some (.ref a'), u, v, x, y]) ∧ Same H2 H' ∧ ∀ n : Nat, n < i → less (plc (har W st) (1 + (n : Int))) (plc (har W st') (1 + (n : Int))) = []) ⟨⟨_, _, _, _, rfl⟩, Same.refl _, fun n h => absurd h (by omega)⟩
      (fun i σ H' ⟨_, b, _⟩ => ⟨SqL.of (b _ _ (s2 _ _ p1)), SqL.of (b _ _ p1')⟩) (fun i x y T σ H' hx hy ⟨⟨u, v, x', y', es⟩, b, c⟩ hT => ?_) (fun σ H' ⟨⟨u, v, x', y', es⟩, b, c⟩ => ?_)
    · subst es
      have hi : i < as.length := by
        have := (List.getElem?_eq_some_iff.mp hx).1
        simpa using this
      rw [List.getElem?_map, List.getElem?_eq_getElem hi] at hx
      rw [List.getElem?_map, List.getElem?_eq_getElem (show i < as'.length by omega)] at hy
      obtain rfl := (Option.some.inj hx).symm
      obtain rfl := (Option.some.inj hy).symm
      have hL : (lims W st)[i]? = some (plc (har W st) (1 + (i : Int))) := by unfold lims; rw [List.getElem?_map, List.getElem?_range (by omega)]; rfl
      have hL' : (lims W st')[i]? = some (plc (har W st') (1 + (i : Int))) := by unfold lims; rw [List.getElem?_map, List.getElem?_range (by omega)]; rfl
      have r1 := p3 i as[i] _ (List.getElem?_eq_getElem hi) hL
      have r2 := p3' i (as'[i]'(by omega)) _ (List.getElem?_eq_getElem (by omega)) hL'
      have l1 : (plc (har W st) (1 + (i : Int))).length ≤ 40 := Nat.le_trans (plc_len _ _) (by rw [har_len]; exact ok.hi)
      generalize eL : plc (har W st) (1 + (i : Int)) = L at r1 l1
      generalize eL' : plc (har W st') (1 + (i : Int)) = L' at r2
      have sT : Same H' (upd H' T (.tup [V.ref as[i], V.ref (as'[i]'(by omega))])) := same_new hT
      have q1 := sT _ _ (b _ _ (s2 _ _ r1))
      have q2 := sT _ _ (b _ _ r2)
      have sB : Same H2 (upd H' T (.tup [V.ref as[i], V.ref (as'[i]'(by omega))])) := b.trans sT
      refine ⟨T, _, rfl, SqT.of upd_same, rfl, _, _, rfl, _, _, rfl, rfl, ?_⟩
      generalize upd H' T (.tup [V.ref as[i], V.ref (as'[i]'(by omega))]) = H5 at q1 q2 sB
      refine ⟨_, rfl, _, rfl, as[i], _, _, _, rfl, .inl ⟨SqL.of q1, SqL.of q2, fun D hD => ?_⟩⟩
      refine lc_zip (xs := nV L) (ys := nV L') (fun k H6 => Same H5 H6 ∧ H6 D = some (.lst (nV ((((L.zip L').take k).filter fun p => decide (p.1 < p.2)).map (·.1))))) ⟨same_new hD, upd_same⟩ (fun k H6 ⟨c0, _⟩ => ⟨SqL.of (c0 _ _ q1), SqL.of (c0 _ _ q2)⟩) (fun k x y T2 H6 hx6 hy6 ⟨c0, c1⟩ hT2 => ?_) (fun H6 ⟨c0, c1⟩ => ?_)
      · have hk : k < L.length := by
          have := (List.getElem?_eq_some_iff.mp hx6).1
          simpa using this
        have hk' : k < L'.length := by
          have := (List.getElem?_eq_some_iff.mp hy6).1
          simpa using this
        rw [nat_ hk] at hx6
        rw [nat_ hk'] at hy6
        obtain rfl := (Option.some.inj hx6).symm
        obtain rfl := (Option.some.inj hy6).symm
        have sT2 : Same H6 (upd H6 T2 (.tup [V.int (L[k] : Nat), V.int (L'[k] : Nat)])) := same_new hT2
        refine ⟨T2, _, rfl, SqT.of upd_same, rfl, _, _, rfl, _, _, rfl, rfl, rfl, ?_⟩
        refine ⟨_, rfl, _, rfl, _, _, rfl, rfl, _, rfl, ?_⟩
        have hz : k < (L.zip L').length := by rw [List.length_zip]; omega
        have et : (L.zip L').take (k + 1) = (L.zip L').take k ++ [(L[k], L'[k])] := by rw [List.take_succ_eq_append_getElem hz, List.getElem_zip]
        refine ite2 (fun z => ?_) (fun z => ?_)
        · have z : decide ((L[k], L'[k]).1 < (L[k], L'[k]).2) = true := decide_eq_true (by have := of_decide_eq_true z; show L[k] < L'[k]; omega)
          refine ⟨_, rfl, _, sT2 _ _ c1, ?_, fun o ob hh => (upd_ne (ne_of_none hh hD)).trans (sT2 _ _ (c0 o ob hh)), ?_⟩
          · rw [nV_len, List.length_map]
            have := List.length_filter_le (fun p : Nat × Nat => decide (p.1 < p.2)) ((L.zip L').take k)
            rw [List.length_take] at this
            exact small1000 (by omega)
          · rw [upd_same, et, List.filter_append, List.filter_cons_of_pos (p := fun p : Nat × Nat => decide (p.1 < p.2)) z, List.filter_nil, List.map_append, nV, nV, List.map_append, List.map_cons, List.map_nil, List.map_cons, List.map_nil]
        · have z : ¬ decide ((L[k], L'[k]).1 < (L[k], L'[k]).2) = true := fun q => z (decide_eq_true (by have := of_decide_eq_true q; have : L[k] < L'[k] := this; omega))
          refine ⟨c0.trans sT2, ?_⟩
          rw [et, List.filter_append, List.filter_cons_of_neg (p := fun p : Nat × Nat => decide (p.1 < p.2)) z, List.filter_nil, List.append_nil]
          exact sT2 _ _ c1
      · rw [nV_len, nV_len, ← List.length_zip, List.take_length] at c1
        refine ⟨(by show 0 ≤ sizeLine; decide), fun q hq' => ?_⟩
        have sq : Same H6 (upd H6 q (.lst [])) := same_new hq'
        refine ⟨_, _, .lst (SqL.of (by rw [← nV_iV]; exact sq _ _ c1)) (dp_ints ((less L L').map fun (k : Nat) => (k : Int))), .lst (SqL.of upd_same) .nil, shaped_ints _, shaped_ints [], _, rfl, ?_⟩
        rw [eqv_nil]
        have sE : Same H2 (upd H6 q (.lst [])) := sB.trans (c0.trans sq)
        refine ite2 (fun z => ?_) (fun z => ?_)
        · refine hq _ false (s1.trans (s2.trans sE)) ⟨fun h => (nomatch h), fun h => ?_⟩
          have := h i (by omega)
          rw [eL, eL'] at this
          rw [this] at z
          cases z
        · refine ⟨⟨_, _, _, _, rfl⟩, sE, fun n hn' => ?_⟩
          rcases Nat.lt_or_eq_of_le (Nat.le_of_lt_succ hn') with h3 | h3
          · exact c n h3
          · subst h3
            rw [eL, eL']
            cases e : less L L' with
            | nil => rfl
            | cons x r =>
              rw [e] at z
              exact absurd rfl z
    · rw [List.length_map, hn] at c
      exact hq H' true (s1.trans (s2.trans b)) ⟨fun _ n h => c n h, fun _ => rfl⟩
end
end Nw
end
section
/-! Promises of the law's helpers: _law_large_holds. -/
namespace Nw
open PySem PySem.Spec PyProof.Rows L2 ClX
section
variable {P : Program} {w : World} {K : PySem.W.Frag} {mg : Str → Option Value} {base : Heap}
theorem mk_net2 {H : Hp} {y : Addr} {W : Nat} {st : List Nat} {G : Addr → Hp → Prop} {E : XK} (ok : OkN W st) (hy : StAt H y st) (q : ∀ H' x, Same H H' → H x = none → Net K H' x W st → G x H') :
    ∀ x dx, H x = none → H dx = none → dx ≠ x → spInit K (.ref x :: ([.int (W : Nat), .ref y] ++ [])) (upd (upd H dx (.own x)) x (.ins (He.ga K "Network") dx [])) (fun v H2 => v = .non ∧ G x H2) E := by
  intro x dx hx hdx hne
  obtain ⟨o, dx', x', W', st', e, h1, h2, h3, h4⟩ := mk_net (K := K) (E := E) (Q := fun v H2 => ∃ z, v = .ref z ∧ G z H2) ok hy (fun H' x s h n => ⟨x, rfl, q H' x s h n⟩) x dx hx hdx hne
  exact ⟨o, dx', x', W', st', e, h1, h2, h3, fun H' m n => let ⟨e1, z, e2, g⟩ := h4 H' m n; ⟨e1, by cases e2; exact g⟩⟩
/-- what the plain mathematics gives -/
def Plain : Prop := ∀ (W : Nat) (st st' : List Nat), OkN W st → OkN W st' → (noGap (res st (desc W)) (res st' (desc W)) ↔ asc (res st (har W st')) = true) ∧ (noGap (res st (desc W)) (res st' (desc W)) ↔ limsOk W st st')
def spLarge : Sp := fun vs H Q _ => ∃ (f g : Addr) (W : Nat) (st st' : List Nat), vs = [.int (W : Nat), .ref f, .ref g] ∧ H f = some (.lst (nV st)) ∧ H g = some (.lst (nV st')) ∧ OkN W st ∧ OkN W st' ∧ ∀ H', Same H H' → Q (.bl true) H'
theorem ok_law_large_holds (pl : Plain) (t : Tx K mg base) : Okd P w K mg base 9 d_law_large_holds ["_law_width", "_law_first", "_law_second_here"] spLarge := by
  have S : FnScope ["_law_width", "_law_first", "_law_second_here", "_law_one", "_law_two", "_law_expected"] ["_law_width", "_law_first", "_law_second_here"] d_law_large_holds.scope := ⟨rfl, rfl, rfl, by decide +kernel, rfl, by decide +kernel, by decide +kernel⟩
  have G1 : Okd P w K mg base 8 d_dominates ["first", "second"] (spDom K) := okd_mono (ok_dominates t) (by decide)
  have G2 : Okd P w K mg base 8 d_sorts ["network", "values"] (spSorts K) := okd_mono (ok_sorts t) (by decide)
  have G3 : Okd P w K mg base 8 d_hardest ["network"] (spHard K) := okd_mono (ok_hardest t) (by decide)
  have G4 : Okd P w K mg base 8 d_law_limits_hold ["_law_one", "_law_two"] (spLimH K) := ok_law_limits_hold t
  refine okd_of t 46 rfl S rfl rfl (fun _ _ _ _ _ _ us hl => match us, hl with | [_, _, _], _ => rfl) (fun vs H Q E h => ?_) fun cdv A outer s H vs Q E hr h => ?_
  · obtain ⟨_, _, _, _, _, rfl, _⟩ := h
    rfl
  · obtain ⟨f, g, W, st, st', rfl, hf, hg, ok, ok', hq⟩ := h
    refine ⟨_, pss_cons (ps_par (i := 3) (j := 4) (by rfl) S.nd rfl rfl (by decide) rfl rfl (pa_cons (pe_mk t (Room.mono (k := 8) hr (by decide)) (by rfl) (pa_cons (pv 0) (pa_cons (pv 1) pa_nil))) (pa_cons (pe_mk t (Room.mono (k := 8) hr (by decide)) (by rfl) (pa_cons (pv 0) (pa_cons (pv 2) pa_nil))) pa_nil)) (by rfl))
      (pss_cons (ps_set (i := 5) S.nd rfl (Or.inl rfl) (pe_cl G1 hr (by rfl) (t.g 17) (pa_cons (pv 3) (pa_cons (pv 4) pa_nil))))
      (pss_one (ps_ret (pe_and (pe_cmpR op_eq (pe_cl G2 hr (by rfl) (t.g 21) (pa_cons (pv 3) (pa_cons (pe_cl G3 hr (by rfl) (t.g 22) (pa_cons (pv 4) pa_nil)) pa_nil))) (pv 5) (nomark _))
        (pe_one (pe_cmpR op_eq (pe_cl G4 hr (by rfl) (t.g 39) (pa_cons (pv 3) (pa_cons (pv 4) pa_nil))) (pv 5) (nomark _))))))), ?_⟩
    obtain ⟨pl1, pl2⟩ := pl W st st' ok ok'
    refine ⟨_, rfl, _, rfl, ?_⟩
    refine mk_net2 ok (.inl hf) fun H1 x s1 _ n1 => ?_
    refine ⟨_, rfl, _, rfl, ?_⟩
    refine mk_net2 ok' (.inl (s1 _ _ hg)) fun H2 y s2 _ n2 => ?_
    refine ⟨_, _, rfl, ?_⟩
    refine ⟨_, rfl, _, rfl, x, y, W, st, st', rfl, n1.same s2, n2, ok, ok', fun H3 d s3 hd => ?_⟩
    refine ⟨_, rfl, _, rfl, y, W, st', rfl, n2.same s3, ok', fun H4 p s4 hp => ?_⟩
    refine ⟨x, p, W, st, _, rfl, n1.same (s2.trans (s3.trans s4)), ok, hp, har_len W st', fun H5 s5 => ?_⟩
    have e1 : asc (res st (har W st')) = d := by
      rw [Bool.eq_iff_iff, hd, pl1]
    refine ⟨_, rfl, rfl, true, by rw [e1]; simp, ?_⟩
    refine iteT ?_
    refine ⟨_, rfl, _, rfl, x, y, W, st, st', rfl, n1.same (s2.trans (s3.trans (s4.trans s5))), n2.same (s3.trans (s4.trans s5)), ok, ok', fun H6 l s6 hl => ?_⟩
    have e2 : l = d := by
      rw [Bool.eq_iff_iff, hd, hl, pl2]
    subst e2
    refine ⟨_, rfl, rfl, ?_⟩
    have := hq H6 (s1.trans (s2.trans (s3.trans (s4.trans (s5.trans s6)))))
    simpa using this
end
end Nw
end
section
/-! The plain mathematics: counts of what is at most a bound, row by row. -/
namespace Nw
abbrev Cf := Nat → Int
/-- a step, the adjoint of a step, on counts -/
def uo (k : Nat) (c : Cf) : Cf := fun p => if p = k then min (c (k - 1) + 1) (c (k + 1)) else c p
def lo (k : Nat) (c : Cf) : Cf := fun p => if p = k then max (c (k - 1)) (c (k + 1) - 1) else c p
def Us (st : List Nat) (c : Cf) : Cf := st.foldl (fun c k => uo k c) c
def Ls (st : List Nat) (c : Cf) : Cf := st.foldl (fun c k => lo k c) c
def EqN (n : Nat) (c d : Cf) : Prop := ∀ p, p ≤ n → c p = d p
def LeN (n : Nat) (c d : Cf) : Prop := ∀ p, p ≤ n → c p ≤ d p
/-- grows by 0 or 1 -/
def Gr (n : Nat) (c : Cf) : Prop := ∀ p, p < n → c p ≤ c (p + 1) ∧ c (p + 1) ≤ c p + 1
abbrev In (n : Nat) (st : List Nat) : Prop := ∀ k ∈ st, 1 ≤ k ∧ k < n
theorem uo_at (k : Nat) (c : Cf) : uo k c k = min (c (k - 1) + 1) (c (k + 1)) := if_pos rfl
theorem uo_ne {k p : Nat} (c : Cf) (h : p ≠ k) : uo k c p = c p := if_neg h
theorem lo_at (k : Nat) (c : Cf) : lo k c k = max (c (k - 1)) (c (k + 1) - 1) := if_pos rfl
theorem lo_ne {k p : Nat} (c : Cf) (h : p ≠ k) : lo k c p = c p := if_neg h
theorem uo_mono {n k : Nat} (hk : 1 ≤ k ∧ k < n) {c d : Cf} (h : LeN n c d) : LeN n (uo k c) (uo k d) := fun p hp => by
  by_cases e : p = k
  · subst e
    rw [uo_at, uo_at]
    have a := h (p - 1) (by omega)
    have b := h (p + 1) (by omega)
    omega
  · rw [uo_ne c e, uo_ne d e]; exact h p hp
theorem lo_mono {n k : Nat} (hk : 1 ≤ k ∧ k < n) {c d : Cf} (h : LeN n c d) : LeN n (lo k c) (lo k d) := fun p hp => by
  by_cases e : p = k
  · subst e
    rw [lo_at, lo_at]
    have a := h (p - 1) (by omega)
    have b := h (p + 1) (by omega)
    omega
  · rw [lo_ne c e, lo_ne d e]; exact h p hp
theorem uo_gr {n k : Nat} (hk : 1 ≤ k ∧ k < n) {c : Cf} (h : Gr n c) : Gr n (uo k c) := fun p hp => by
  have a := h (k - 1) (by omega)
  have b := h k (by omega)
  have q := h p hp
  have ek : k - 1 + 1 = k := by omega
  rw [ek] at a
  by_cases e : p = k
  · subst e
    rw [uo_at, uo_ne c (show p + 1 ≠ p by omega)]
    omega
  · by_cases e2 : p + 1 = k
    · subst e2
      rw [uo_at, uo_ne c e]
      simp only [Nat.add_sub_cancel] at a ⊢
      omega
    · rw [uo_ne c e, uo_ne c e2]; exact q
theorem lo_gr {n k : Nat} (hk : 1 ≤ k ∧ k < n) {c : Cf} (h : Gr n c) : Gr n (lo k c) := fun p hp => by
  have a := h (k - 1) (by omega)
  have b := h k (by omega)
  have q := h p hp
  have ek : k - 1 + 1 = k := by omega
  rw [ek] at a
  by_cases e : p = k
  · subst e
    rw [lo_at, lo_ne c (show p + 1 ≠ p by omega)]
    omega
  · by_cases e2 : p + 1 = k
    · subst e2
      rw [lo_at, lo_ne c e]
      simp only [Nat.add_sub_cancel] at a ⊢
      omega
    · rw [lo_ne c e, lo_ne c e2]; exact q
theorem uo_up {n k : Nat} (hk : 1 ≤ k ∧ k < n) {c : Cf} (h : Gr n c) : LeN n c (uo k c) := fun p hp => by
  by_cases e : p = k
  · subst e
    have a := h (p - 1) (by omega)
    have b := h p (by omega)
    have ek : p - 1 + 1 = p := by omega
    rw [ek] at a
    rw [uo_at]
    omega
  · rw [uo_ne c e]; exact Int.le_refl _
theorem uo_adj {n k : Nat} (hk : 1 ≤ k ∧ k < n) {c d : Cf} (hc : Gr n c) (hd : Gr n d) : LeN n d (uo k c) ↔ LeN n (lo k d) c := by
  have c1 := hc (k - 1) (by omega)
  have c2 := hc k (by omega)
  have d1 := hd (k - 1) (by omega)
  have d2 := hd k (by omega)
  have ek : k - 1 + 1 = k := by omega
  rw [ek] at c1 d1
  constructor
  · intro h p hp
    by_cases e : p = k
    · subst e
      rw [lo_at]
      have a := h (p - 1) (by omega)
      have b := h (p + 1) (by omega)
      rw [uo_ne c (by omega)] at a b
      omega
    · rw [lo_ne d e]
      have a := h p hp
      rw [uo_ne c e] at a
      exact a
  · intro h p hp
    by_cases e : p = k
    · subst e
      rw [uo_at]
      have a := h (p - 1) (by omega)
      have b := h (p + 1) (by omega)
      rw [lo_ne d (by omega)] at a b
      omega
    · rw [uo_ne c e]
      have a := h p hp
      rw [lo_ne d e] at a
      exact a
theorem In.tail {n k : Nat} {st : List Nat} (h : In n (k :: st)) : In n st := fun j hj => h j (List.mem_cons_of_mem _ hj)
theorem In.rev {n : Nat} {st : List Nat} (h : In n st) : In n st.reverse := fun j hj => h j (List.mem_reverse.mp hj)
theorem Us_mono {n : Nat} : ∀ {st : List Nat}, In n st → ∀ {c d : Cf}, LeN n c d → LeN n (Us st c) (Us st d)
  | [], _, _, _, h => h
  | _ :: st, hk, _, _, h => Us_mono (st := st) hk.tail (uo_mono (hk _ List.mem_cons_self) h)
theorem Ls_mono {n : Nat} : ∀ {st : List Nat}, In n st → ∀ {c d : Cf}, LeN n c d → LeN n (Ls st c) (Ls st d)
  | [], _, _, _, h => h
  | _ :: st, hk, _, _, h => Ls_mono (st := st) hk.tail (lo_mono (hk _ List.mem_cons_self) h)
theorem EqN.le {n : Nat} {c d : Cf} (h : EqN n c d) : LeN n c d := fun p hp => Int.le_of_eq (h p hp)
theorem EqN.ge {n : Nat} {c d : Cf} (h : EqN n c d) : LeN n d c := fun p hp => Int.le_of_eq (h p hp).symm
theorem eqN_of {n : Nat} {c d : Cf} (h1 : LeN n c d) (h2 : LeN n d c) : EqN n c d := fun p hp => Int.le_antisymm (h1 p hp) (h2 p hp)
theorem Us_eq {n : Nat} {st : List Nat} (hk : In n st) {c d : Cf} (h : EqN n c d) : EqN n (Us st c) (Us st d) := eqN_of (Us_mono hk h.le) (Us_mono hk h.ge)
theorem Ls_eq {n : Nat} {st : List Nat} (hk : In n st) {c d : Cf} (h : EqN n c d) : EqN n (Ls st c) (Ls st d) := eqN_of (Ls_mono hk h.le) (Ls_mono hk h.ge)
theorem Us_gr {n : Nat} : ∀ {st : List Nat}, In n st → ∀ {c : Cf}, Gr n c → Gr n (Us st c)
  | [], _, _, h => h
  | _ :: st, hk, _, h => Us_gr (st := st) hk.tail (uo_gr (hk _ List.mem_cons_self) h)
theorem Ls_gr {n : Nat} : ∀ {st : List Nat}, In n st → ∀ {c : Cf}, Gr n c → Gr n (Ls st c)
  | [], _, _, h => h
  | _ :: st, hk, _, h => Ls_gr (st := st) hk.tail (lo_gr (hk _ List.mem_cons_self) h)
theorem Us_end {n : Nat} : ∀ {st : List Nat}, In n st → ∀ (c : Cf), Us st c n = c n
  | [], _, _ => rfl
  | k :: st, hk, c => (Us_end (st := st) hk.tail (uo k c)).trans (uo_ne c (by have := (hk k List.mem_cons_self).2; omega))
theorem Ls_end {n : Nat} : ∀ {st : List Nat}, In n st → ∀ (c : Cf), Ls st c n = c n
  | [], _, _ => rfl
  | k :: st, hk, c => (Ls_end (st := st) hk.tail (lo k c)).trans (lo_ne c (by have := (hk k List.mem_cons_self).2; omega))
theorem Us_zero {n : Nat} : ∀ {st : List Nat}, In n st → ∀ (c : Cf), Us st c 0 = c 0
  | [], _, _ => rfl
  | k :: st, hk, c => (Us_zero (st := st) hk.tail (uo k c)).trans (uo_ne c (by have := (hk k List.mem_cons_self).1; omega))
theorem Ls_zero {n : Nat} : ∀ {st : List Nat}, In n st → ∀ (c : Cf), Ls st c 0 = c 0
  | [], _, _ => rfl
  | k :: st, hk, c => (Ls_zero (st := st) hk.tail (lo k c)).trans (lo_ne c (by have := (hk k List.mem_cons_self).1; omega))
theorem Ls_snoc (st : List Nat) (k : Nat) (c : Cf) : Ls (st ++ [k]) c = lo k (Ls st c) := by
  unfold Ls
  rw [List.foldl_append]
  rfl
theorem Us_adj {n : Nat} {d : Cf} (hd : Gr n d) : ∀ {st : List Nat}, In n st → ∀ {c : Cf}, Gr n c → (LeN n d (Us st c) ↔ LeN n (Ls st.reverse d) c)
  | [], _, _, _ => Iff.rfl
  | k :: st, hk, c, hc => by
    have ih := Us_adj hd (st := st) hk.tail (uo_gr (hk _ List.mem_cons_self) hc)
    have e : Us (k :: st) c = Us st (uo k c) := rfl
    rw [e, ih, List.reverse_cons, Ls_snoc]
    exact uo_adj (hk _ List.mem_cons_self) hc (Ls_gr hk.tail.rev hd)
/-! ### lists -/
theorem gi_set (xs : List Int) (i : Nat) (v : Int) (j : Nat) (hi : i < xs.length) : gi (xs.set i v) j = if j = i then v else gi xs j := by
  unfold gi
  rw [List.getD_eq_getElem?_getD, List.getD_eq_getElem?_getD, List.getElem?_set]
  by_cases h : i = j
  · subst h; simp [hi]
  · rw [if_neg h, if_neg (Ne.symm h)]
theorem gi_stp {xs : List Int} {k : Nat} (h1 : 1 ≤ k) (h2 : k < xs.length) (p : Nat) : gi (stp xs k) p = if p = k then max (gi xs (k - 1)) (gi xs k) else if p + 1 = k then min (gi xs (k - 1)) (gi xs k) else gi xs p := by
  unfold stp swp
  by_cases h : gi xs k < gi xs (k - 1)
  · rw [if_pos (decide_eq_true h), gi_set _ _ _ _ (by rw [List.length_set]; exact h2), gi_set _ _ _ _ (by omega)]
    by_cases e : p = k
    · rw [if_pos e, if_pos e]; omega
    · rw [if_neg e, if_neg e]
      by_cases e2 : p + 1 = k
      · rw [if_pos e2, if_pos (by omega)]; omega
      · rw [if_neg e2, if_neg (by omega)]
  · rw [if_neg (by simpa using h)]
    by_cases e : p = k
    · rw [if_pos e, e]; omega
    · rw [if_neg e]
      by_cases e2 : p + 1 = k
      · rw [if_pos e2]
        have : p = k - 1 := by omega
        rw [this]; omega
      · rw [if_neg e2]
theorem gi_bst {xs : List Int} {k : Nat} (h1 : 1 ≤ k) (h2 : k < xs.length) (p : Nat) : gi (bst xs k) p = if p = k then min (gi xs (k - 1)) (gi xs k) else if p + 1 = k then max (gi xs (k - 1)) (gi xs k) else gi xs p := by
  unfold bst
  by_cases h : gi xs (k - 1) < gi xs k
  · rw [if_pos h, gi_set _ _ _ _ (by rw [List.length_set]; exact h2), gi_set _ _ _ _ (by omega)]
    by_cases e : p = k
    · rw [if_pos e, if_pos e]; omega
    · rw [if_neg e, if_neg e]
      by_cases e2 : p + 1 = k
      · rw [if_pos e2, if_pos (by omega)]; omega
      · rw [if_neg e2, if_neg (by omega)]
  · rw [if_neg h]
    by_cases e : p = k
    · rw [if_pos e, e]; omega
    · rw [if_neg e]
      by_cases e2 : p + 1 = k
      · rw [if_pos e2]
        have : p = k - 1 := by omega
        rw [this]; omega
      · rw [if_neg e2]
/-- how many of the first p are at most t -/
def ct (xs : List Int) (t : Int) : Cf := fun p => ((cnt xs t p : Nat) : Int)
theorem ct_zero (xs : List Int) (t : Int) : ct xs t 0 = 0 := rfl
theorem ct_succ {xs : List Int} (t : Int) {p : Nat} (h : p < xs.length) : ct xs t (p + 1) = ct xs t p + if gi xs p ≤ t then 1 else 0 := by
  have e : gi xs p = xs[p] := by
    have := gi_at h
    rw [List.getElem?_eq_getElem h] at this
    exact (Option.some.inj this).symm
  unfold ct cnt
  rw [List.take_succ_eq_append_getElem h, List.filter_append, List.length_append, e]
  by_cases c : xs[p] ≤ t
  · rw [List.filter_cons_of_pos (by simpa using c), if_pos c]; simp
  · rw [List.filter_cons_of_neg (by simpa using c), if_neg c]; simp
theorem ct_gr (xs : List Int) (t : Int) : Gr xs.length (ct xs t) := fun p hp => by
  rw [ct_succ t hp]
  split <;> omega
theorem ct_stp {xs : List Int} {k : Nat} (h : 1 ≤ k ∧ k < xs.length) (t : Int) : EqN xs.length (ct (stp xs k) t) (uo k (ct xs t)) := by
  intro p
  have a := ct_succ t (xs := xs) (p := k - 1) (by omega)
  have b := ct_succ t (xs := xs) (p := k) (by omega)
  have ek : k - 1 + 1 = k := by omega
  rw [ek] at a
  induction p with
  | zero => intro _; rw [uo_ne _ (by omega), ct_zero, ct_zero]
  | succ p ih =>
    intro hp
    have ih := ih (by omega)
    rw [ct_succ t (by rw [stp_len]; omega), ih, gi_stp h.1 h.2]
    by_cases e : p = k
    · subst e
      rw [uo_at, uo_ne _ (show p + 1 ≠ p by omega), if_pos rfl, b, a]
      by_cases x : gi xs (p - 1) ≤ t <;> by_cases y : gi xs p ≤ t <;> simp only [x, y, if_true, if_false] <;> split <;> omega
    · rw [uo_ne _ e, if_neg e]
      by_cases e2 : p + 1 = k
      · subst e2
        simp only [Nat.add_sub_cancel] at a b
        rw [uo_at, if_pos rfl, b, a]
        simp only [Nat.add_sub_cancel]
        by_cases x : gi xs p ≤ t <;> by_cases y : gi xs (p + 1) ≤ t <;> simp only [x, y, if_true, if_false] <;> split <;> omega
      · rw [uo_ne _ e2, if_neg e2, ct_succ t (by omega)]
theorem ct_bst {xs : List Int} {k : Nat} (h : 1 ≤ k ∧ k < xs.length) (t : Int) : EqN xs.length (ct (bst xs k) t) (lo k (ct xs t)) := by
  intro p
  have a := ct_succ t (xs := xs) (p := k - 1) (by omega)
  have b := ct_succ t (xs := xs) (p := k) (by omega)
  have ek : k - 1 + 1 = k := by omega
  rw [ek] at a
  induction p with
  | zero => intro _; rw [lo_ne _ (by omega), ct_zero, ct_zero]
  | succ p ih =>
    intro hp
    have ih := ih (by omega)
    rw [ct_succ t (by rw [bst_len]; omega), ih, gi_bst h.1 h.2]
    by_cases e : p = k
    · subst e
      rw [lo_at, lo_ne _ (show p + 1 ≠ p by omega), if_pos rfl, b, a]
      by_cases x : gi xs (p - 1) ≤ t <;> by_cases y : gi xs p ≤ t <;> simp only [x, y, if_true, if_false] <;> split <;> omega
    · rw [lo_ne _ e, if_neg e]
      by_cases e2 : p + 1 = k
      · subst e2
        simp only [Nat.add_sub_cancel] at a b
        rw [lo_at, if_pos rfl, b, a]
        simp only [Nat.add_sub_cancel]
        by_cases x : gi xs p ≤ t <;> by_cases y : gi xs (p + 1) ≤ t <;> simp only [x, y, if_true, if_false] <;> split <;> omega
      · rw [lo_ne _ e2, if_neg e2, ct_succ t (by omega)]
theorem EqN.trans {n : Nat} {a b c : Cf} (h : EqN n a b) (k : EqN n b c) : EqN n a c := fun p hp => (h p hp).trans (k p hp)
theorem ct_res (t : Int) : ∀ (st : List Nat) (xs : List Int), In xs.length st → EqN xs.length (ct (res st xs) t) (Us st (ct xs t))
  | [], _, _ => fun _ _ => rfl
  | k :: st, xs, h => by
    have e := stp_len xs k
    have ih := ct_res t st (stp xs k) (by rw [e]; exact h.tail)
    rw [e] at ih
    exact ih.trans (Us_eq h.tail (ct_stp (h k List.mem_cons_self) t))
theorem ct_bres (t : Int) : ∀ (st : List Nat) (xs : List Int), In xs.length st → EqN xs.length (ct (bres st xs) t) (Ls st (ct xs t))
  | [], _, _ => fun _ _ => rfl
  | k :: st, xs, h => by
    have e := bst_len xs k
    have ih := ct_bres t st (bst xs k) (by rw [e]; exact h.tail)
    rw [e] at ih
    exact ih.trans (Ls_eq h.tail (ct_bst (h k List.mem_cons_self) t))
end Nw
end
section
/-! The plain mathematics: sorting, limits, profiles. -/
namespace Nw
/-! ### in order -/
theorem gi_get' {xs : List Int} {i : Nat} (h : i < xs.length) : gi xs i = xs[i] := by
  have := gi_at h
  rw [List.getElem?_eq_getElem h] at this
  exact (Option.some.inj this).symm
theorem asc_iff (xs : List Int) : asc xs = true ↔ ∀ p, p + 1 < xs.length → gi xs p ≤ gi xs (p + 1) := by
  unfold asc
  rw [List.all_eq_true]
  constructor
  · intro h p hp
    have hz : p < (xs.zip (xs.drop 1)).length := by simp; omega
    have := h _ (List.getElem_mem hz)
    rw [List.getElem_zip, List.getElem_drop] at this
    have := of_decide_eq_true this
    rw [gi_get' (by omega), gi_get' hp]
    simpa [Nat.add_comm] using this
  · intro h x hx
    obtain ⟨p, hz, e⟩ := List.mem_iff_getElem.mp hx
    have hp : p + 1 < xs.length := by simp at hz; omega
    have := h p hp
    rw [gi_get' (by omega), gi_get' hp] at this
    rw [← e, List.getElem_zip, List.getElem_drop]
    refine decide_eq_true ?_
    simpa [Nat.add_comm] using this
theorem Gr.mono {n : Nat} {c : Cf} (h : Gr n c) {p q : Nat} (hpq : p ≤ q) (hq : q ≤ n) : c p ≤ c q := by
  induction q with
  | zero => rw [show p = 0 by omega]; exact Int.le_refl _
  | succ q ih =>
    rcases Nat.lt_or_eq_of_le hpq with z | z
    · exact Int.le_trans (ih (by omega) (by omega)) (h q (by omega)).1
    · rw [z]; exact Int.le_refl _
theorem Gr.lip {n : Nat} {c : Cf} (h : Gr n c) {p q : Nat} (hpq : p ≤ q) (hq : q ≤ n) : c q ≤ c p + ((q : Int) - p) := by
  induction q with
  | zero => rw [show p = 0 by omega]; omega
  | succ q ih =>
    rcases Nat.lt_or_eq_of_le hpq with z | z
    · have := ih (by omega) (by omega)
      have := (h q (by omega)).2
      omega
    · rw [z]; omega
theorem ct_le (xs : List Int) (t : Int) {p : Nat} (hp : p ≤ xs.length) : ct xs t p ≤ p := by
  have := (ct_gr xs t).lip (Nat.zero_le p) hp
  rw [ct_zero] at this
  omega
theorem ct_ge (xs : List Int) (t : Int) (p : Nat) : 0 ≤ ct xs t p := Int.natCast_nonneg _
theorem ct_full {xs : List Int} {t : Int} : ∀ {p : Nat}, p ≤ xs.length → (∀ i, i < p → gi xs i ≤ t) → ct xs t p = p
  | 0, _, _ => rfl
  | p + 1, hp, h => by
    rw [ct_succ t (by omega), ct_full (p := p) (by omega) fun i hi => h i (by omega), if_pos (h p (by omega))]
    rfl
theorem ct_rest {xs : List Int} {t : Int} {p : Nat} : ∀ {q : Nat}, p ≤ q → q ≤ xs.length → (∀ i, p ≤ i → i < q → t < gi xs i) → ct xs t q = ct xs t p
  | 0, hpq, _, _ => by rw [show p = 0 by omega]
  | q + 1, hpq, hq, h => by
    rcases Nat.lt_or_eq_of_le hpq with z | z
    · rw [ct_succ t (by omega), ct_rest (p := p) (q := q) (by omega) (by omega) fun i h1 h2 => h i h1 (by omega), if_neg (by have := h q (by omega) (by omega); omega)]
      omega
    · rw [z]
theorem asc_mono {xs : List Int} (h : ∀ p, p + 1 < xs.length → gi xs p ≤ gi xs (p + 1)) {i j : Nat} (hij : i ≤ j) (hj : j < xs.length) : gi xs i ≤ gi xs j := by
  induction j with
  | zero => rw [show i = 0 by omega]; exact Int.le_refl _
  | succ j ih =>
    rcases Nat.lt_or_eq_of_le hij with z | z
    · exact Int.le_trans (ih (by omega) (by omega)) (h j hj)
    · rw [z]; exact Int.le_refl _
theorem asc_ct (xs : List Int) : asc xs = true ↔ ∀ t, LeN xs.length (fun p => min (p : Int) (ct xs t xs.length)) (ct xs t) := by
  rw [asc_iff]
  constructor
  · intro h t p hp
    show min (p : Int) _ ≤ _
    rcases Nat.eq_zero_or_pos p with z | z
    · subst z
      rw [ct_zero]
      have := ct_ge xs t xs.length
      omega
    · by_cases c : gi xs (p - 1) ≤ t
      · rw [ct_full hp fun i hi => Int.le_trans (asc_mono h (show i ≤ p - 1 by omega) (by omega)) c]
        omega
      · have e := ct_rest (xs := xs) (t := t) (p := p) (q := xs.length) hp (Nat.le_refl _) fun i h1 h2 => by
          have := asc_mono h (show p - 1 ≤ i by omega) h2
          omega
        rw [e]
        omega
  · intro h p hp
    have x1 := ct_succ (gi xs (p + 1)) (xs := xs) (p := p) (by omega)
    have x2 := ct_succ (gi xs (p + 1)) (xs := xs) (p := p + 1) hp
    rw [if_pos (Int.le_refl _)] at x2
    have x3 := h (gi xs (p + 1)) (p + 1) (by omega)
    have x4 := (ct_gr xs (gi xs (p + 1))).mono (show p + 1 + 1 ≤ xs.length from hp) (Nat.le_refl _)
    have x5 := ct_le xs (gi xs (p + 1)) (show p ≤ xs.length by omega)
    by_cases c : gi xs p ≤ gi xs (p + 1)
    · exact c
    · rw [if_neg c] at x1
      dsimp only at x3
      omega
/-! ### the two lists to begin with -/
theorem gi_up {W p : Nat} (h : p < W) : gi (up W) p = 1 + (p : Int) := by
  rw [gi_get' (by rw [up_len]; exact h)]
  unfold up
  rw [List.getElem_map, List.getElem_range]
theorem gi_desc {W p : Nat} (h : p < W) : gi (desc W) p = (W : Int) - p := by
  rw [gi_get' (by rw [desc_len]; exact h)]
  unfold desc
  rw [List.getElem_map, List.getElem_range]
theorem ct_up (W : Nat) (t : Int) : ∀ p, p ≤ W → ct (up W) t p = max 0 (min (p : Int) t)
  | 0, _ => by rw [ct_zero]; show (0 : Int) = max 0 (min 0 t); omega
  | p + 1, h => by
    rw [ct_succ t (by rw [up_len]; omega), ct_up W t p (by omega), gi_up (by omega)]
    by_cases c : 1 + (p : Int) ≤ t
    · rw [if_pos c]; omega
    · rw [if_neg c]; omega
theorem ct_desc (W : Nat) (b : Int) : ∀ p, p ≤ W → ct (desc W) b p = min (p : Int) (max 0 ((p : Int) + b - W))
  | 0, _ => by rw [ct_zero]; show (0 : Int) = min 0 _; omega
  | p + 1, h => by
    rw [ct_succ b (by rw [desc_len]; omega), ct_desc W b p (by omega), gi_desc (by omega)]
    by_cases c : (W : Int) - p ≤ b
    · rw [if_pos c]; omega
    · rw [if_neg c]; omega
/-- the number within 0 .. W -/
def cl (W : Nat) (t : Int) : Int := max 0 (min (W : Int) t)
theorem ct_har {W : Nat} {st : List Nat} (h : In W st) (t : Int) : EqN W (ct (har W st) t) (Ls st.reverse (ct (up W) t)) := by
  have := ct_bres t st.reverse (up W) (by rw [up_len]; exact h.rev)
  rw [up_len] at this
  exact this
theorem ct_har_end {W : Nat} {st : List Nat} (h : In W st) (t : Int) : ct (har W st) t W = cl W t := by
  rw [ct_har h t W (Nat.le_refl _), Ls_end h.rev, ct_up W t W (Nat.le_refl _)]
  rfl
theorem ct_har_cl {W : Nat} {st : List Nat} (h : In W st) (t : Int) : EqN W (ct (har W st) t) (ct (har W st) (cl W t)) := by
  refine (ct_har h t).trans (EqN.trans (Ls_eq h.rev fun p hp => ?_) fun p hp => (ct_har h _ p hp).symm)
  rw [ct_up W t p hp, ct_up W _ p hp]
  unfold cl
  omega
/-- the law of sorting -/
theorem sorts_iff {W : Nat} {st : List Nat} (h : In W st) {xs : List Int} (hx : xs.length = W) : asc (res st xs) = true ↔ ∀ t, LeN W (ct (har W st) (ct xs t W)) (ct xs t) := by
  subst hx
  have hl := res_len st xs
  rw [asc_ct, hl]
  have key : ∀ t, LeN xs.length (fun p => min (p : Int) (ct (res st xs) t xs.length)) (ct (res st xs) t) ↔ LeN xs.length (ct (har xs.length st) (ct xs t xs.length)) (ct xs t) := fun t => by
    have e1 := ct_res t st xs h
    have ez : ct (res st xs) t xs.length = ct xs t xs.length := (e1 _ (Nat.le_refl _)).trans (Us_end h _)
    have z0 := ct_ge xs t xs.length
    have z1 := ct_le xs t (Nat.le_refl xs.length)
    rw [ez]
    have gd : Gr xs.length (fun p => min (p : Int) (ct xs t xs.length)) := fun p hp => by
      show min (p : Int) _ ≤ min ((p + 1 : Nat) : Int) _ ∧ min ((p + 1 : Nat) : Int) _ ≤ min (p : Int) _ + 1
      omega
    have a := Us_adj gd h (ct_gr xs t)
    have e2 : EqN xs.length (Ls st.reverse fun p => min (p : Int) (ct xs t xs.length)) (ct (har xs.length st) (ct xs t xs.length)) := fun p hp => by
      rw [ct_har h _ p hp]
      refine Ls_eq h.rev (fun q hq => ?_) p hp
      rw [ct_up _ _ q hq]
      show min (q : Int) _ = _
      omega
    constructor
    · intro q p hp
      rw [← e2 p hp]
      exact a.mp (fun p hp => by rw [← e1 p hp]; exact q p hp) p hp
    · intro q p hp
      rw [e1 p hp]
      exact a.mpr (fun p hp => by rw [e2 p hp]; exact q p hp) p hp
  exact ⟨fun q t => (key t).mp (q t), fun q t => (key t).mpr (q t)⟩
/-- WHAT ALL COMES TO -/
def DomL (W : Nat) (st st' : List Nat) : Prop := ∀ t : Int, LeN W (ct (har W st) t) (ct (har W st') t)
theorem domL_of {W : Nat} {st st' : List Nat} (h : In W st) (h' : In W st') (q : ∀ t : Nat, 1 ≤ t → t < W → LeN W (ct (har W st) t) (ct (har W st') t)) : DomL W st st' := fun t p hp => by
  have l1 := har_len W st
  have l2 := har_len W st'
  rw [ct_har_cl h t p hp, ct_har_cl h' t p hp]
  by_cases c : 1 ≤ t ∧ t < W
  · have : cl W t = (t.toNat : Nat) := by unfold cl; omega
    rw [this]
    exact q _ (by omega) (by omega) p hp
  · have e1 := ct_har_end h (cl W t)
    have e2 := ct_har_end h' (cl W t)
    have g1 := ct_gr (har W st) (cl W t)
    have g2 := ct_gr (har W st') (cl W t)
    rw [l1] at g1
    rw [l2] at g2
    have a1 := ct_le (har W st) (cl W t) (p := p) (by omega)
    have a3 := g1.mono hp (Nat.le_refl _)
    have a4 := g2.lip hp (Nat.le_refl _)
    have a5 := ct_ge (har W st') (cl W t) p
    have e3 : cl W (cl W t) = cl W t := by unfold cl; omega
    have e4 : cl W t = 0 ∨ cl W t = W := by unfold cl; omega
    rw [e3] at e1 e2
    omega
/-- a list with every number of 1 .. W once -/
def IsArr (W : Nat) (xs : List Int) : Prop := xs.length = W ∧ ∀ t, ct xs t W = cl W t
theorem isArr_har {W : Nat} {st : List Nat} (h : In W st) : IsArr W (har W st) := ⟨har_len W st, ct_har_end h⟩
theorem sorts_arr {W : Nat} {st : List Nat} (h : In W st) {xs : List Int} (hx : IsArr W xs) : asc (res st xs) = true ↔ ∀ t, LeN W (ct (har W st) t) (ct xs t) := by
  rw [sorts_iff h hx.1]
  constructor
  · intro q t p hp
    have := q t p hp
    rw [hx.2 t, ← ct_har_cl h t p hp] at this
    exact this
  · intro q t p hp
    rw [hx.2 t, ← ct_har_cl h t p hp]
    exact q t p hp
/-- the hardest list -/
theorem hard_iff {W : Nat} {st st' : List Nat} (h : In W st) (h' : In W st') : asc (res st (har W st')) = true ↔ DomL W st st' := sorts_arr h (isArr_har h')
end Nw
end
section
/-! The plain mathematics: the profile's matrix is the limits' turned round. -/
namespace Nw
abbrev Mx := Nat → Nat → Int
def ro (k : Nat) (M : Mx) : Mx := fun p b => if p = k then min (M (k - 1) b + 1) (M (k + 1) b) else M p b
def co (j : Nat) (M : Mx) : Mx := fun p b => if b = j then min (M p (j - 1) + 1) (M p (j + 1)) else M p b
def tm (n : Nat) : Mx := fun p b => max 0 ((p : Int) + b - n)
def Rs (st : List Nat) (M : Mx) : Mx := st.foldl (fun M k => ro k M) M
theorem ro_co {k j : Nat} (hk : 1 ≤ k) (hj : 1 ≤ j) (M : Mx) : ro k (co j M) = co j (ro k M) := by
  funext p b
  unfold ro co
  by_cases e : p = k <;> by_cases f : b = j <;> simp only [e, f, if_true, if_false, show k - 1 ≠ k by omega, show k + 1 ≠ k by omega, show j - 1 ≠ j by omega, show j + 1 ≠ j by omega]
  omega
theorem ro_tm {n k : Nat} (h : 1 ≤ k ∧ k < n) : ro k (tm n) = co (n - k) (tm n) := by
  funext p b
  unfold ro co tm
  by_cases e : p = k <;> by_cases f : b = n - k <;> simp only [e, f, if_true, if_false] <;> omega
theorem Rs_co {n j : Nat} (hj : 1 ≤ j) : ∀ {st : List Nat}, In n st → ∀ M, Rs st (co j M) = co j (Rs st M)
  | [], _, _ => rfl
  | k :: st, h, M => by
    show Rs st (ro k (co j M)) = co j (Rs st (ro k M))
    rw [ro_co (h k List.mem_cons_self).1 hj, Rs_co hj h.tail]
theorem Rs_cons {n k : Nat} {st : List Nat} (h : In n (k :: st)) : Rs (k :: st) (tm n) = co (n - k) (Rs st (tm n)) := by
  have hk := h k List.mem_cons_self
  show Rs st (ro k (tm n)) = _
  rw [ro_tm hk, Rs_co (by omega) h.tail]
theorem Rs_Us (b : Nat) : ∀ (st : List Nat) (M : Mx) (p : Nat), Rs st M p b = Us st (fun q => M q b) p
  | [], _, _ => rfl
  | k :: st, M, p => by
    show Rs st (ro k M) p b = Us st (uo k fun q => M q b) p
    rw [Rs_Us b st (ro k M) p]
    rfl
theorem Ls_tm {n p : Nat} (hp : p ≤ n) : ∀ {st : List Nat}, In n st → EqN n (Ls st.reverse fun b => min (b : Int) p) (fun b => (p : Int) - Rs st (tm n) p (n - b))
  | [], _, b, hb => by
    show min (b : Int) p = (p : Int) - max 0 ((p : Int) + (n - b : Nat) - n)
    omega
  | k :: st, h, b, hb => by
    have hk := h k List.mem_cons_self
    have ih := Ls_tm hp (st := st) h.tail
    rw [List.reverse_cons, Ls_snoc, Rs_cons h]
    by_cases e : b = k
    · subst e
      rw [lo_at, ih (b - 1) (by omega), ih (b + 1) (by omega)]
      unfold co
      dsimp only
      rw [if_pos rfl, show n - (b - 1) = n - b + 1 by omega, show n - (b + 1) = n - b - 1 by omega]
      omega
    · rw [lo_ne _ e, ih b hb]
      unfold co
      dsimp only
      rw [if_neg (by omega)]
theorem In.desc {n : Nat} {st : List Nat} (h : In n st) : In (desc n).length st := by rw [desc_len]; exact h
theorem ct_prof {n : Nat} {st : List Nat} (h : In n st) {b : Nat} (hb : b ≤ n) {p : Nat} (hp : p ≤ n) : ct (res st (desc n)) b p = Rs st (tm n) p b := by
  have e := ct_res (b : Nat) st (desc n) h.desc
  rw [desc_len] at e
  rw [e p hp, Rs_Us]
  refine Us_eq h (fun q hq => ?_) p hp
  rw [ct_desc n _ q hq]
  unfold tm
  omega
theorem dual {n : Nat} {st : List Nat} (h : In n st) {p b : Nat} (hp : p ≤ n) (hb : b ≤ n) : ct (har n st) (p : Nat) b = (p : Int) - ct (res st (desc n)) ((n - b : Nat) : Nat) p := by
  rw [ct_prof h (by omega) hp]
  refine Eq.trans ?_ (Ls_tm hp h b hb)
  rw [ct_har h _ b hb]
  refine Ls_eq h.rev (fun q hq => ?_) b hb
  rw [ct_up n _ q hq]
  omega
theorem noGap_iff {n : Nat} {st st' : List Nat} (h : In n st) (h' : In n st') : noGap (res st (desc n)) (res st' (desc n)) ↔ ∀ b : Nat, b ≤ n → LeN n (ct (res st' (desc n)) b) (ct (res st (desc n)) b) := by
  have l1 : (res st (desc n)).length = n := by rw [res_len, desc_len]
  have l2 : (res st' (desc n)).length = n := by rw [res_len, desc_len]
  unfold noGap
  rw [l1]
  constructor
  · intro q b hb p hp
    have x1 := ct_res (b : Nat) st (desc n) h.desc
    have x2 := ct_res (b : Nat) st' (desc n) h'.desc
    rw [desc_len] at x1 x2
    have y1 := (x1 n (Nat.le_refl _)).trans (Us_end h _)
    have y2 := (x2 n (Nat.le_refl _)).trans (Us_end h' _)
    rw [ct_desc n _ n (Nat.le_refl _)] at y1 y2
    have g1 := ct_gr (res st (desc n)) (b : Nat)
    have g2 := ct_gr (res st' (desc n)) (b : Nat)
    rw [l1] at g1
    rw [l2] at g2
    by_cases c : 1 ≤ b ∧ b < n ∧ 1 ≤ p ∧ p < n
    · have := q b p c.1 c.2.1 c.2.2.1 c.2.2.2
      unfold ct
      omega
    · have a1 := g1.lip hp (Nat.le_refl _)
      have a2 := g2.mono hp (Nat.le_refl _)
      have a3 := ct_le (res st' (desc n)) (b : Nat) (p := p) (by omega)
      have a4 := ct_ge (res st (desc n)) (b : Nat) p
      omega
  · intro q b p h1 h2 h3 h4
    have := q b (by omega) p (by omega)
    unfold ct at this
    omega
/-- profiles and limits -/
theorem noGap_dom {n : Nat} {st st' : List Nat} (h : In n st) (h' : In n st') : noGap (res st (desc n)) (res st' (desc n)) ↔ DomL n st st' := by
  rw [noGap_iff h h']
  constructor
  · intro q
    refine domL_of h h' fun t _ ht p hp => ?_
    rw [dual h (by omega) hp, dual h' (by omega) hp]
    have := q (n - p) (by omega) t (by omega)
    omega
  · intro q b hb p hp
    have := q (p : Nat) (n - b) (by omega)
    rw [dual h hp (by omega), dual h' hp (by omega), show n - (n - b) = b by omega] at this
    omega
/-! ### every row is made of the profile's -/
def Rep (n : Nat) (c a : Cf) (M : Mx) : Prop := ∀ p, p ≤ n → (∀ j, j ≤ n → c p ≤ a j + M p j) ∧ ∃ j, j ≤ n ∧ a j + M p j ≤ c p
theorem rep_uo {n k : Nat} (hk : 1 ≤ k ∧ k < n) {c a : Cf} {M : Mx} (r : Rep n c a M) : Rep n (uo k c) a (ro k M) := fun p hp => by
  by_cases e : p = k
  · subst e
    rw [uo_at]
    unfold ro
    simp only [if_true]
    obtain ⟨a1, j1, b1, b2⟩ := r (p - 1) (by omega)
    obtain ⟨a2, j2, b3, b4⟩ := r (p + 1) (by omega)
    refine ⟨fun j hj => ?_, ?_⟩
    · have x := a1 j hj
      have y := a2 j hj
      omega
    · by_cases z : c (p - 1) + 1 ≤ c (p + 1)
      · exact ⟨j1, b1, by omega⟩
      · exact ⟨j2, b3, by omega⟩
  · rw [uo_ne c e]
    unfold ro
    simp only [if_neg e]
    exact r p hp
theorem rep_Us {n : Nat} {a : Cf} : ∀ {st : List Nat}, In n st → ∀ {c : Cf} {M : Mx}, Rep n c a M → Rep n (Us st c) a (Rs st M)
  | [], _, _, _, r => r
  | k :: st, h, _, _, r => rep_Us (st := st) h.tail (rep_uo (h k List.mem_cons_self) r)
/-- the columns turned: j ones in front -/
def tn (n : Nat) : Mx := fun p j => tm n p (n - j)
theorem rep_tn {n : Nat} {c : Cf} (h : Gr n c) : Rep n c c (tn n) := fun p hp => by
  refine ⟨fun j hj => ?_, p, hp, ?_⟩
  · show c p ≤ c j + max 0 ((p : Int) + (n - j : Nat) - n)
    rcases Nat.le_total p j with z | z
    · have := h.mono z hj; omega
    · have := h.lip z hp; omega
  · show c p + max 0 ((p : Int) + (n - p : Nat) - n) ≤ c p
    omega
theorem Rs_tn {n j : Nat} (st : List Nat) (p : Nat) : Rs st (tn n) p j = Rs st (tm n) p (n - j) := by
  rw [Rs_Us, Rs_Us]
  rfl
/-- the law of domination, for every row -/
theorem rows_le {n : Nat} {st st' : List Nat} (h : In n st) (h' : In n st') (q : DomL n st st') {c : Cf} (hc : Gr n c) : LeN n (Us st' c) (Us st c) := fun p hp => by
  have q2 := (noGap_iff h h').mp ((noGap_dom h h').mpr q)
  obtain ⟨_, j, hj, b⟩ := rep_Us h (rep_tn hc) p hp
  obtain ⟨a, _⟩ := rep_Us h' (rep_tn hc) p hp
  have a := a j hj
  rw [Rs_tn] at a b
  have := q2 (n - j) (by omega) p hp
  rw [ct_prof h (by omega) hp, ct_prof h' (by omega) hp] at this
  omega
/-- a network without some of its steps -/
theorem sub_le {n : Nat} : ∀ {st' st : List Nat}, List.Sublist st' st → In n st → ∀ {c d : Cf}, LeN n d c → Gr n c → Gr n d → LeN n (Us st' d) (Us st c)
  | _, _, .slnil, _, _, _, hl, _, _ => hl
  | _, _, .cons k r, h, _, _, hl, hc, hd => sub_le r h.tail (fun p hp => Int.le_trans (hl p hp) (uo_up (h k List.mem_cons_self) hc p hp)) (uo_gr (h k List.mem_cons_self) hc) hd
  | _, _, .cons_cons k r, h, _, _, hl, hc, hd => sub_le r h.tail (uo_mono (h k List.mem_cons_self) hl) (uo_gr (h k List.mem_cons_self) hc) (uo_gr (h k List.mem_cons_self) hd)
theorem noGap_sub {n : Nat} {st st' : List Nat} (h : In n st) (s : List.Sublist st' st) : noGap (res st (desc n)) (res st' (desc n)) := by
  have h' : In n st' := fun k hk => h k (s.subset hk)
  refine (noGap_iff h h').mpr fun b hb p hp => ?_
  have x1 := ct_res (b : Nat) st (desc n) h.desc
  have x2 := ct_res (b : Nat) st' (desc n) h'.desc
  have g := ct_gr (desc n) (b : Nat)
  rw [desc_len] at x1 x2 g
  rw [x1 p hp, x2 p hp]
  exact sub_le s h (fun _ _ => Int.le_refl _) g g p hp
/-- the steps that change on the descending list do all -/
theorem red_res {n : Nat} {a : Int → Cf} : ∀ (st : List Nat) (pf xs : List Int), In n st → pf.length = n → xs.length = n → (∀ t, Rep n (ct xs t) (a t) (fun p j => ct pf (n - j : Nat) p)) → res (red st pf) xs = res st xs
  | [], _, _, _, _, _, _ => rfl
  | k :: st, pf, xs, h, h1, h2, r => by
    have hk := h k List.mem_cons_self
    have r' : ∀ t, Rep n (ct (stp xs k) t) (a t) (fun p j => ct (stp pf k) (n - j : Nat) p) := fun t p hp => by
      have e1 := ct_stp (xs := xs) (k := k) (by omega) t p (by omega)
      rw [e1]
      have e2 : ∀ j : Nat, ct (stp pf k) (n - j : Nat) p = ro k (fun p j => ct pf (n - j : Nat) p) p j := fun j => (ct_stp (xs := pf) (k := k) (by omega) _ p (by omega))
      obtain ⟨b1, j, b2, b3⟩ := rep_uo hk (r t) p hp
      exact ⟨fun j hj => by show _ ≤ _ + ct (stp pf k) (n - j : Nat) p; rw [e2]; exact b1 j hj, j, b2, by show _ + ct (stp pf k) (n - j : Nat) p ≤ _; rw [e2]; exact b3⟩
    have ih := red_res st (stp pf k) (stp xs k) h.tail (by rw [stp_len]; exact h1) (by rw [stp_len]; exact h2) r'
    show res (if swp pf k = true then k :: red st (stp pf k) else red st (stp pf k)) xs = res st (stp xs k)
    by_cases c : swp pf k = true
    · rw [if_pos c]
      exact ih
    · rw [if_neg c]
      have e : stp xs k = xs := by
        unfold stp
        refine if_neg fun z => c (decide_eq_true ?_)
        have z : gi xs k < gi xs (k - 1) := of_decide_eq_true z
        have x1 := ct_succ (gi xs k) (xs := xs) (p := k - 1) (by omega)
        have x2 := ct_succ (gi xs k) (xs := xs) (p := k) (by omega)
        rw [show k - 1 + 1 = k by omega, if_neg (by omega)] at x1
        rw [if_pos (Int.le_refl _)] at x2
        obtain ⟨_, j, b2, b3⟩ := r (gi xs k) k (by omega)
        have y1 := (r (gi xs k) (k - 1) (by omega)).1 j b2
        have y2 := (r (gi xs k) (k + 1) (by omega)).1 j b2
        dsimp only at b3 y1 y2
        have w1 := ct_succ ((n - j : Nat) : Nat) (xs := pf) (p := k - 1) (by omega)
        have w2 := ct_succ ((n - j : Nat) : Nat) (xs := pf) (p := k) (by omega)
        rw [show k - 1 + 1 = k by omega] at w1
        by_cases u1 : gi pf (k - 1) ≤ ((n - j : Nat) : Nat) <;> by_cases u2 : gi pf k ≤ ((n - j : Nat) : Nat)
        · rw [if_pos u1] at w1; rw [if_pos u2] at w2; omega
        · rw [if_pos u1] at w1; rw [if_neg u2] at w2; omega
        · omega
        · rw [if_neg u1] at w1; rw [if_neg u2] at w2; omega
      rw [e] at ih ⊢
      exact ih
theorem red_ok {n : Nat} {st : List Nat} (h : In n st) {xs : List Int} (hx : xs.length = n) : res (red st (desc n)) xs = res st xs := by
  subst hx
  refine red_res (a := fun t => ct xs t) st (desc xs.length) xs h (desc_len _) rfl fun t p hp => ?_
  obtain ⟨b1, j, b2, b3⟩ := rep_tn (ct_gr xs t) p hp
  have e : ∀ j : Nat, j ≤ xs.length → ct (desc xs.length) (xs.length - j : Nat) p = tn xs.length p j := fun j hj => by
    rw [ct_desc _ _ p hp]
    unfold tn tm
    omega
  exact ⟨fun j hj => by dsimp only; rw [e j hj]; exact b1 j hj, j, b2, by dsimp only; rw [e j b2]; exact b3⟩
end Nw
end
section
/-! The plain mathematics: limits as places, rows of bits, arrangements. -/
namespace Nw
/-! ### limits as places -/
theorem less_nil {A B : List Nat} : less A B = [] ↔ ∀ (j : Nat) (a b : Nat), A[j]? = some a → B[j]? = some b → b ≤ a := by
  unfold less
  rw [List.map_eq_nil_iff, List.filter_eq_nil_iff]
  constructor
  · intro h j a b ha hb
    have := h (a, b) (List.mem_iff_getElem?.mpr ⟨j, List.getElem?_zip_eq_some.mpr ⟨ha, hb⟩⟩)
    simpa using this
  · intro h z hz
    obtain ⟨j, hj⟩ := List.mem_iff_getElem?.mp hz
    obtain ⟨h1, h2⟩ := List.getElem?_zip_eq_some.mp hj
    have := h j _ _ h1 h2
    simpa using this
def plcN (xs : List Int) (c : Int) (m : Nat) : List Nat := ((List.range m).filter fun i => decide (gi xs i ≤ c)).map (· + 1)
theorem plcN_ok (xs : List Int) (c : Int) : ∀ m, m ≤ xs.length → ((plcN xs c m).length : Int) = ct xs c m ∧ ∀ (j a : Nat), (plcN xs c m)[j]? = some a → 1 ≤ a ∧ a ≤ m ∧ ct xs c a = (j : Int) + 1 ∧ ct xs c (a - 1) = (j : Int)
  | 0, _ => ⟨rfl, fun j a h => by simp [plcN] at h⟩
  | m + 1, h => by
    obtain ⟨i1, i2⟩ := plcN_ok xs c m (by omega)
    have e := ct_succ c (xs := xs) (p := m) (by omega)
    have en : plcN xs c (m + 1) = plcN xs c m ++ if gi xs m ≤ c then [m + 1] else [] := by
      unfold plcN
      rw [List.range_succ, List.filter_append, List.map_append]
      by_cases z : gi xs m ≤ c
      · rw [if_pos z, List.filter_cons_of_pos (by simpa using z)]; rfl
      · rw [if_neg z, List.filter_cons_of_neg (by simpa using z)]; rfl
    rw [en]
    by_cases z : gi xs m ≤ c
    · rw [if_pos z] at e ⊢
      refine ⟨by rw [List.length_append, e]; simp; omega, fun j a ha => ?_⟩
      rcases Nat.lt_or_ge j (plcN xs c m).length with hj | hj
      · rw [List.getElem?_append_left hj] at ha
        obtain ⟨b1, b2, b3, b4⟩ := i2 j a ha
        exact ⟨b1, by omega, b3, b4⟩
      · rw [List.getElem?_append_right hj] at ha
        have hj2 := (List.getElem?_eq_some_iff.mp ha).1
        simp at hj2
        have ej : j = (plcN xs c m).length := by omega
        rw [ej, Nat.sub_self] at ha
        obtain rfl : m + 1 = a := by simpa using ha
        rw [Nat.add_sub_cancel]
        exact ⟨by omega, by omega, by omega, by omega⟩
    · rw [if_neg z] at e ⊢
      rw [List.append_nil]
      refine ⟨by omega, fun j a ha => ?_⟩
      obtain ⟨b1, b2, b3, b4⟩ := i2 j a ha
      exact ⟨b1, by omega, b3, b4⟩
theorem plc_ct {xs ys : List Int} {c : Int} (hl : ys.length = xs.length) (he : ct xs c xs.length = ct ys c xs.length) : (∀ (j : Nat) (a b : Nat), (plc xs c)[j]? = some a → (plc ys c)[j]? = some b → b ≤ a) ↔ LeN xs.length (ct xs c) (ct ys c) := by
  have gx := ct_gr xs c
  have gy := ct_gr ys c
  rw [hl] at gy
  obtain ⟨x1, x2⟩ := plcN_ok xs c xs.length (Nat.le_refl _)
  obtain ⟨y1, y2⟩ := plcN_ok ys c xs.length (by omega)
  have ex : plc xs c = plcN xs c xs.length := rfl
  have ey : plc ys c = plcN ys c xs.length := by unfold plc plcN; rw [hl]
  rw [ex, ey]
  constructor
  · intro h p hp
    rcases Int.lt_or_le 0 (ct xs c p) with z | z
    · have hm := gx.mono hp (Nat.le_refl _)
      have hj : (ct xs c p).toNat - 1 < (plcN xs c xs.length).length := by omega
      have hj' : (ct xs c p).toNat - 1 < (plcN ys c xs.length).length := by omega
      have q := h _ _ _ (List.getElem?_eq_getElem hj) (List.getElem?_eq_getElem hj')
      obtain ⟨a1, a2, a3, a4⟩ := x2 _ _ (List.getElem?_eq_getElem hj)
      obtain ⟨b1, b2, b3, b4⟩ := y2 _ _ (List.getElem?_eq_getElem hj')
      have hap : (plcN xs c xs.length)[(ct xs c p).toNat - 1] ≤ p := by
        refine Nat.le_of_not_lt fun w => ?_
        have := gx.mono (show p ≤ (plcN xs c xs.length)[(ct xs c p).toNat - 1] - 1 by omega) (by omega)
        omega
      have := gy.mono (show (plcN ys c xs.length)[(ct xs c p).toNat - 1] ≤ p by omega) hp
      omega
    · have := ct_ge ys c p
      omega
  · intro h j a b ha hb
    obtain ⟨a1, a2, a3, a4⟩ := x2 j a ha
    obtain ⟨b1, b2, b3, b4⟩ := y2 j b hb
    refine Nat.le_of_not_lt fun w => ?_
    have := gy.mono (show a ≤ b - 1 by omega) (by omega)
    have := h a a2
    omega
theorem lims_iff {W : Nat} {st st' : List Nat} (h : In W st) (h' : In W st') : limsOk W st st' ↔ DomL W st st' := by
  have l1 := har_len W st
  have l2 := har_len W st'
  have key : ∀ c : Int, less (plc (har W st) c) (plc (har W st') c) = [] ↔ LeN W (ct (har W st) c) (ct (har W st') c) := fun c => by
    have e := plc_ct (xs := har W st) (ys := har W st') (c := c) (by rw [l1, l2]) (by rw [l1, ct_har_end h, ct_har_end h'])
    rw [l1] at e
    rw [less_nil, e]
  unfold limsOk
  constructor
  · intro q
    refine domL_of h h' fun t h1 h2 => ?_
    have := (key _).mp (q (t - 1) (by omega))
    rw [show 1 + ((t - 1 : Nat) : Int) = t by omega] at this
    exact this
  · intro q i hi
    exact (key _).mpr (q _)
/-! ### rows of zeros and ones -/
def Bit (xs : List Int) : Prop := ∀ i, gi xs i = 0 ∨ gi xs i = 1
theorem bit_stp {xs : List Int} {k : Nat} (hk : 1 ≤ k ∧ k < xs.length) (h : Bit xs) : Bit (stp xs k) := fun i => by
  rw [gi_stp hk.1 hk.2]
  have a := h (k - 1)
  have b := h k
  have c := h i
  split
  · omega
  · split
    · omega
    · exact c
theorem bit_res : ∀ (st : List Nat) (xs : List Int), In xs.length st → Bit xs → Bit (res st xs)
  | [], _, _, h => h
  | k :: st, xs, hk, h => bit_res st (stp xs k) (by rw [stp_len]; exact hk.tail) (bit_stp (hk k List.mem_cons_self) h)
theorem bit_sum {xs : List Int} (h : Bit xs) : ∀ p, p ≤ xs.length → (xs.take p).sum = (p : Int) - ct xs 0 p
  | 0, _ => rfl
  | p + 1, hp => by
    have e := ct_succ 0 (xs := xs) (p := p) (by omega)
    rw [List.take_succ_eq_append_getElem (by omega), List.sum_append, bit_sum h p (by omega), ← gi_get' (by omega)]
    rcases h p with z | z <;> rw [z] at e ⊢
    · rw [if_pos (by omega)] at e
      simp only [List.sum_cons, List.sum_nil]; omega
    · rw [if_neg (by omega)] at e
      simp only [List.sum_cons, List.sum_nil]; omega
theorem gi_row {W n i : Nat} (h : i < W) : gi (bitRow W n) i = ((n / 2 ^ i % 2 : Nat) : Int) := by
  rw [gi_get' (by rw [bitRow_len]; exact h)]
  unfold bitRow
  rw [List.getElem_map, List.getElem_range]
theorem gi_out {xs : List Int} {i : Nat} (h : xs.length ≤ i) : gi xs i = 0 := by
  unfold gi
  rw [List.getD_eq_getElem?_getD, List.getElem?_eq_none h]
  rfl
theorem bit_row (W n : Nat) : Bit (bitRow W n) := fun i => by
  rcases Nat.lt_or_ge i W with h | h
  · rw [gi_row h]; omega
  · rw [gi_out (by rw [bitRow_len]; exact h)]; omega
/-- every row is there -/
theorem row_of : ∀ (xs : List Int), Bit xs → ∃ n, n < 2 ^ xs.length ∧ bitRow xs.length n = xs
  | [], _ => ⟨0, by simp, rfl⟩
  | x :: xs, h => by
    obtain ⟨n, hn, e⟩ := row_of xs fun i => h (i + 1)
    have hx : x = 0 ∨ x = 1 := h 0
    refine ⟨x.toNat + 2 * n, by rw [List.length_cons, Nat.pow_succ]; omega, ?_⟩
    show bitRow (xs.length + 1) _ = _
    unfold bitRow at e ⊢
    rw [List.range_succ_eq_map, List.map_cons, List.map_map]
    congr 1
    · rw [Nat.pow_zero, Nat.div_one]; omega
    · refine Eq.trans (List.map_congr_left fun i _ => ?_) e
      show ((_ / 2 ^ (i + 1) % 2 : Nat) : Int) = ((n / 2 ^ i % 2 : Nat) : Int)
      rw [Nat.pow_succ, Nat.mul_comm (2 ^ i) 2, ← Nat.div_div_eq_div_mul, show (x.toNat + 2 * n) / 2 = n by omega]
theorem list_gi {xs ys : List Int} (hl : xs.length = ys.length) (h : ∀ i, i < xs.length → gi xs i = gi ys i) : xs = ys := by
  refine List.ext_getElem hl fun i h1 h2 => ?_
  rw [← gi_get' h1, ← gi_get' h2]; exact h i h1
/-- the row: zeros where xs is at most c -/
def thr (xs : List Int) (c : Int) : List Int := xs.map fun x => if x ≤ c then 0 else 1
theorem thr_len (xs : List Int) (c : Int) : (thr xs c).length = xs.length := List.length_map _
theorem gi_thr {xs : List Int} {c : Int} {i : Nat} (h : i < xs.length) : gi (thr xs c) i = if gi xs i ≤ c then 0 else 1 := by
  rw [gi_get' (by rw [thr_len]; exact h), gi_get' h]
  unfold thr
  rw [List.getElem_map]
theorem bit_thr (xs : List Int) (c : Int) : Bit (thr xs c) := fun i => by
  rcases Nat.lt_or_ge i xs.length with h | h
  · rw [gi_thr h]; split <;> omega
  · rw [gi_out (by rw [thr_len]; exact h)]; omega
theorem ct_thr (xs : List Int) (c : Int) : ∀ p, p ≤ xs.length → ct (thr xs c) 0 p = ct xs c p
  | 0, _ => rfl
  | p + 1, h => by
    rw [ct_succ 0 (by rw [thr_len]; omega), ct_succ c (by omega), ct_thr xs c p (by omega), gi_thr (by omega)]
    by_cases z : gi xs p ≤ c
    · rw [if_pos z, if_pos z, if_pos (by omega)]
    · rw [if_neg z, if_neg z, if_neg (by omega)]
/-- the law of the counts -/
theorem allFar_iff {W : Nat} {st st' : List Nat} (h : In W st) (h' : In W st') : allFar W st st' ↔ DomL W st st' := by
  have key : ∀ xs : List Int, xs.length = W → Bit xs → (asFar (res st xs) (res st' xs) ↔ LeN W (Us st' (ct xs 0)) (Us st (ct xs 0))) := fun xs hx hb => by
    subst hx
    have b1 := bit_res st xs h hb
    have b2 := bit_res st' xs h' hb
    have l1 := res_len st xs
    have l2 := res_len st' xs
    have e1 := ct_res 0 st xs h
    have e2 := ct_res 0 st' xs h'
    unfold asFar
    rw [l1]
    constructor
    · intro q p hp
      rcases Nat.eq_zero_or_pos p with z | z
      · subst z
        rw [Us_zero h, Us_zero h']; exact Int.le_refl _
      · have := q p z hp
        rw [bit_sum b1 p (by omega), bit_sum b2 p (by omega), e1 p hp, e2 p hp] at this
        omega
    · intro q p h1 hp
      have := q p hp
      rw [bit_sum b1 p (by omega), bit_sum b2 p (by omega), e1 p hp, e2 p hp]
      omega
  constructor
  · intro q
    refine (noGap_dom h h').mp ((noGap_iff h h').mpr fun b hb p hp => ?_)
    obtain ⟨n, hn, e⟩ := row_of (thr (desc W) b) (bit_thr _ _)
    have lt : (thr (desc W) (b : Nat)).length = W := by rw [thr_len, desc_len]
    rw [lt] at hn e
    have z := (key _ lt (bit_thr _ _)).mp (by rw [← e]; exact q n hn) p hp
    have cg : EqN W (ct (thr (desc W) (b : Nat)) 0) (ct (desc W) (b : Nat)) := fun q hq => ct_thr _ _ q (by rw [desc_len]; exact hq)
    rw [Us_eq h cg p hp, Us_eq h' cg p hp] at z
    have x1 := ct_res (b : Nat) st (desc W) h.desc
    have x2 := ct_res (b : Nat) st' (desc W) h'.desc
    rw [desc_len] at x1 x2
    rw [x1 p hp, x2 p hp]
    exact z
  · intro q n hn
    refine (key _ (bitRow_len W n) (bit_row W n)).mpr (rows_le h h' q ?_)
    have := ct_gr (bitRow W n) 0
    rw [bitRow_len] at this
    exact this
theorem bit_lt {xs : List Int} (hb : Bit xs) {t : Int} (ht : t < 0) : ∀ p, p ≤ xs.length → ct xs t p = 0
  | 0, _ => rfl
  | p + 1, hp => by
    rw [ct_succ t (by omega), bit_lt hb ht p (by omega), if_neg (by have := hb p; omega)]
    rfl
theorem bit_gt {xs : List Int} (hb : Bit xs) {t : Int} (ht : 1 ≤ t) {p : Nat} (hp : p ≤ xs.length) : ct xs t p = p := ct_full hp fun i _ => by have := hb i; omega
theorem sorts_bit {W : Nat} {st : List Nat} (h : In W st) {xs : List Int} (hx : xs.length = W) (hb : Bit xs) : asc (res st xs) = true ↔ LeN W (ct (har W st) (ct xs 0 W)) (ct xs 0) := by
  rw [sorts_iff h hx]
  refine ⟨fun q => q 0, fun q t => ?_⟩
  subst hx
  have l1 := har_len xs.length st
  rcases Int.lt_trichotomy t 0 with z | z | z
  · intro p hp
    rw [bit_lt hb z _ (Nat.le_refl _), bit_lt hb z p hp]
    have g := ct_gr (har xs.length st) 0
    rw [l1] at g
    have := g.mono hp (Nat.le_refl _)
    rw [ct_har_end h] at this
    unfold cl at this
    omega
  · rw [z]; exact q
  · intro p hp
    rw [bit_gt hb (by omega) hp]
    exact ct_le _ _ (by omega)
/-- the law of the sorted rows -/
theorem bits_iff {W : Nat} {st st' : List Nat} (h : In W st) (h' : In W st') : (∀ n, n < 2 ^ W → asc (res st' (bitRow W n)) = true → asc (res st (bitRow W n)) = true) ↔ DomL W st st' := by
  constructor
  · intro q
    refine domL_of h h' fun t h1 h2 => ?_
    obtain ⟨n, hn, e⟩ := row_of (thr (har W st') t) (bit_thr _ _)
    have lt : (thr (har W st') (t : Nat)).length = W := by rw [thr_len, har_len]
    rw [lt] at hn e
    have c0 : ∀ p, p ≤ W → ct (thr (har W st') (t : Nat)) 0 p = ct (har W st') (t : Nat) p := fun p hp => ct_thr _ _ p (by rw [har_len]; exact hp)
    have z := q n hn
    rw [e, sorts_bit h lt (bit_thr _ _), sorts_bit h' lt (bit_thr _ _)] at z
    have ez : ct (thr (har W st') (t : Nat)) 0 W = (t : Nat) := by
      rw [c0 W (Nat.le_refl _), ct_har_end h']
      unfold cl
      omega
    rw [ez] at z
    intro p hp
    rw [← c0 p hp]
    exact z (fun p hp => by rw [c0 p hp]; exact Int.le_refl _) p hp
  · intro q n hn z
    rw [sorts_bit h (bitRow_len W n) (bit_row W n)]
    rw [sorts_bit h' (bitRow_len W n) (bit_row W n)] at z
    exact fun p hp => Int.le_trans (q _ p hp) (z p hp)
/-! ### arrangements -/
theorem pigeon : ∀ (d : Nat) (a : Int) (l : List Int), l.Nodup → (∀ x ∈ l, a < x ∧ x ≤ a + d) → l.length ≤ d
  | 0, a, [], _, _ => Nat.le_refl _
  | 0, a, x :: l, _, h => absurd (h x List.mem_cons_self) (by omega)
  | d + 1, a, l, hn, h => by
    by_cases hm : a + (d + 1 : Nat) ∈ l
    · have := pigeon d a (l.erase (a + (d + 1 : Nat))) (hn.erase _) fun x hx => by
        have h1 := h x (List.mem_of_mem_erase hx)
        have h2 : x ≠ a + (d + 1 : Nat) := fun e => by rw [e] at hx; exact (List.Nodup.not_mem_erase hn) hx
        omega
      rw [List.length_erase_of_mem hm] at this
      omega
    · have := pigeon d a l hn fun x hx => by
        have h1 := h x hx
        have h2 : x ≠ a + (d + 1 : Nat) := fun e => hm (by rw [← e]; exact hx)
        omega
      omega
theorem ct_all (xs : List Int) (t : Int) : ct xs t xs.length = ((xs.filter fun x => decide (x ≤ t)).length : Nat) := by
  unfold ct cnt
  rw [List.take_length]
theorem isArr_of {W : Nat} {xs : List Int} (hl : xs.length = W) (hn : xs.Nodup) (hr : ∀ x ∈ xs, 1 ≤ x ∧ x ≤ (W : Int)) : IsArr W xs := by
  refine ⟨hl, fun t => ?_⟩
  have e := ct_all xs t
  rw [hl] at e
  have sp : xs.length = (xs.filter fun x => decide (x ≤ t)).length + (xs.filter fun x => decide (¬ decide (x ≤ t) = true)).length := by
    have := List.length_eq_countP_add_countP (fun x => decide (x ≤ t)) (l := xs)
    rw [List.countP_eq_length_filter, List.countP_eq_length_filter] at this
    exact this
  have n1 := hn.filter (fun x => decide (x ≤ t))
  have n2 := hn.filter (fun x => decide (¬ decide (x ≤ t) = true))
  have p1 := pigeon (cl W t).toNat 0 _ n1 fun x hx => by
    obtain ⟨h1, h2⟩ := List.mem_filter.mp hx
    have h2 := of_decide_eq_true h2
    have h1 := hr x h1
    unfold cl
    omega
  have p2 := pigeon (W - (cl W t).toNat) (cl W t) _ n2 fun x hx => by
    obtain ⟨h1, h2⟩ := List.mem_filter.mp hx
    have h2 : ¬ x ≤ t := by simpa using h2
    have h1 := hr x h1
    unfold cl
    omega
  have : 0 ≤ cl W t ∧ cl W t ≤ W := by unfold cl; omega
  omega
theorem ct_diff (xs : List Int) (v : Int) {p q : Nat} (h : p ≤ q) (hq : q ≤ xs.length) : ct xs (v - 1) q - ct xs (v - 1) p ≤ ct xs v q - ct xs v p := by
  induction q with
  | zero => rw [show p = 0 by omega]; omega
  | succ q ih =>
    rcases Nat.lt_or_eq_of_le h with z | z
    · have := ih (by omega) (by omega)
      rw [ct_succ v (by omega), ct_succ (v - 1) (by omega)]
      by_cases a : gi xs q ≤ v
      · rw [if_pos a]; split <;> omega
      · rw [if_neg a, if_neg (by omega)]; omega
    · rw [z]; omega
theorem of_isArr {W : Nat} {xs : List Int} (h : IsArr W xs) : xs.Nodup ∧ ∀ x ∈ xs, 1 ≤ x ∧ x ≤ (W : Int) := by
  obtain ⟨hl, hc⟩ := h
  subst hl
  constructor
  · refine List.nodup_iff_pairwise_ne.mpr (List.pairwise_iff_getElem.mpr fun i j hi hj hij e => ?_)
    rw [← gi_get' hi, ← gi_get' hj] at e
    have a0 := ct_diff xs (gi xs i) (Nat.zero_le i) (by omega)
    have a1 := ct_diff xs (gi xs i) (show i + 1 ≤ j by omega) (by omega)
    have a2 := ct_diff xs (gi xs i) (show j + 1 ≤ xs.length by omega) (Nat.le_refl _)
    have b1 := ct_succ (gi xs i) (xs := xs) (p := i) hi
    have b2 := ct_succ (gi xs i - 1) (xs := xs) (p := i) hi
    have b3 := ct_succ (gi xs i) (xs := xs) (p := j) hj
    have b4 := ct_succ (gi xs i - 1) (xs := xs) (p := j) hj
    rw [if_pos (by omega)] at b1 b3
    rw [if_neg (by omega)] at b2 b4
    have c1 := hc (gi xs i)
    have c2 := hc (gi xs i - 1)
    rw [ct_zero, ct_zero] at a0
    unfold cl at c1 c2
    omega
  · intro x hx
    obtain ⟨i, hi, e⟩ := List.mem_iff_getElem.mp hx
    rw [← gi_get' hi] at e
    constructor
    · refine Int.le_of_not_gt fun z => ?_
      have b1 := ct_succ 0 (xs := xs) (p := i) hi
      rw [if_pos (by omega)] at b1
      have := (ct_gr xs 0).mono (show i + 1 ≤ xs.length from hi) (Nat.le_refl _)
      have c := hc 0
      have := ct_ge xs 0 i
      unfold cl at c
      omega
    · refine Int.le_of_not_gt fun z => ?_
      have b1 := ct_succ (xs.length : Nat) (xs := xs) (p := i) hi
      rw [if_neg (by omega)] at b1
      have := (ct_gr xs (xs.length : Nat)).lip (show i + 1 ≤ xs.length from hi) (Nat.le_refl _)
      have c := hc (xs.length : Nat)
      have := ct_le xs (xs.length : Nat) (p := i) (by omega)
      unfold cl at c
      omega
theorem arr_isArr (W : Nat) : ∀ (d : Nat) (beg x : List Int), beg.length + d = W → beg.Nodup → (∀ y ∈ beg, 1 ≤ y ∧ y ≤ (W : Int)) → x ∈ NwG.arr W d beg → IsArr W x
  | 0, beg, x, hl, hn, hr, h => by
    obtain rfl := List.mem_singleton.mp (show x ∈ [beg] from h)
    exact isArr_of (by omega) hn hr
  | d + 1, beg, x, hl, hn, hr, h => by
    obtain ⟨i, hi, h⟩ := List.mem_flatMap.mp (show x ∈ (List.range W).flatMap _ from h)
    have hi := List.mem_range.mp hi
    split at h
    · cases h
    · rename_i hb
      refine arr_isArr W d (beg ++ [1 + (i : Int)]) x (by simp; omega) ?_ (fun y hy => ?_) h
      · rw [List.nodup_append]
        refine ⟨hn, by simp, fun a ha b hb2 e => ?_⟩
        rw [List.mem_singleton.mp hb2] at e
        exact hb (by rw [← e]; exact ha)
      · rcases List.mem_append.mp hy with z | z
        · exact hr y z
        · rw [List.mem_singleton.mp z]; omega
theorem mem_arr (W : Nat) : ∀ (d : Nat) (beg rest : List Int), rest.length = d → (beg ++ rest).Nodup → (∀ y ∈ beg ++ rest, 1 ≤ y ∧ y ≤ (W : Int)) → beg ++ rest ∈ NwG.arr W d beg
  | 0, beg, rest, hl, hn, hr => by
    rw [List.length_eq_zero_iff.mp hl, List.append_nil]
    exact List.mem_singleton.mpr rfl
  | d + 1, beg, [], hl, hn, hr => by simp at hl
  | d + 1, beg, r :: rest, hl, hn, hr => by
    have h1 := hr r (by simp)
    have e : (1 : Int) + ((r - 1).toNat : Nat) = r := by omega
    refine List.mem_flatMap.mpr ⟨(r - 1).toNat, List.mem_range.mpr (by omega), ?_⟩
    rw [e]
    have hb : r ∉ beg := fun z => by
      rw [List.nodup_append] at hn
      exact hn.2.2 r z r List.mem_cons_self rfl
    rw [if_neg hb]
    have ih := mem_arr W d (beg ++ [r]) rest (by simpa using hl) (by simpa using hn) (by simpa using hr)
    simpa using ih
theorem mem_arr_iff {W : Nat} {x : List Int} : x ∈ NwG.arr W W [] ↔ IsArr W x := by
  constructor
  · exact arr_isArr W W [] x (by simp) List.nodup_nil (fun y h => nomatch h)
  · intro h
    obtain ⟨h1, h2⟩ := of_isArr h
    exact mem_arr W W [] x h.1 h1 h2
/-- the law of the arrangements -/
theorem arrs_iff {W : Nat} {st st' : List Nat} (h : In W st) (h' : In W st') : (∀ x ∈ NwG.arr W W [], asc (res st' x) = true → asc (res st x) = true) ↔ DomL W st st' := by
  constructor
  · intro q
    have := q (har W st') (mem_arr_iff.mpr (isArr_har h')) ((sorts_arr h' (isArr_har h')).mpr fun t p hp => Int.le_refl _)
    exact (hard_iff h h').mp this
  · intro q x hx z
    have hx := mem_arr_iff.mp hx
    exact (sorts_arr h hx).mpr fun t p hp => Int.le_trans (q t p hp) ((sorts_arr h' hx).mp z t p hp)
end Nw
end
section
/-! The plain mathematics: the number of sorted arrangements grows with the limits. -/
namespace Nw
/-- nowhere greater -/
def ng (P L : List Int) : Bool := (P.zip L).all fun p => decide (p.1 ≤ p.2)
/-- in ascending order -/
def srt (xs : List Int) : List Int := xs.mergeSort fun a b => decide (a ≤ b)
theorem srt_of {xs ys : List Int} (hp : ys.Perm xs) (hs : ys.Pairwise (· ≤ ·)) : ys = srt xs := by
  have h2 : (srt xs).Pairwise (· ≤ ·) := by
    have := List.pairwise_mergeSort (le := fun a b : Int => decide (a ≤ b)) (fun a b c h1 h2 => by
      have h1 := of_decide_eq_true h1
      have h2 := of_decide_eq_true h2
      exact decide_eq_true (by omega)) (fun a b => by
      rcases Int.le_total a b with z | z
      · simp [z]
      · simp [z]) xs
    exact this.imp fun h => of_decide_eq_true h
  exact List.Perm.eq_of_pairwise (le := (· ≤ ·)) (fun a b _ _ h1 h2 => Int.le_antisymm h1 h2) hs h2 (hp.trans (List.mergeSort_perm xs _).symm)
theorem srt_len (xs : List Int) : (srt xs).length = xs.length := List.length_mergeSort xs
/-- one place more -/
def one (E : List Int) (L : List Int) (φ : List Int → Int) (k : List Int) : Int := (E.map fun e => if e ∈ k then 0 else if ng (srt (k ++ [e])) L = true then φ (srt (k ++ [e])) else 0).sum
/-- the ways to go on -/
def paths (E : List Int) : List (List Int) → List Int → Int
  | [], _ => 1
  | L :: Ls, k => one E L (paths E Ls) k
theorem one_mono {E L L' : List Int} {φ φ' : List Int → Int} (hL : ∀ P, ng P L' = true → ng P L = true) (h0 : ∀ k, 0 ≤ φ k) (hφ : ∀ k, φ' k ≤ φ k) (k : List Int) : one E L' φ' k ≤ one E L φ k := by
  unfold one
  induction E with
  | nil => exact Int.le_refl _
  | cons e E ih =>
    rw [List.map_cons, List.map_cons, List.sum_cons, List.sum_cons]
    refine Int.add_le_add ?_ ih
    by_cases c : e ∈ k
    · rw [if_pos c, if_pos c]; exact Int.le_refl _
    · rw [if_neg c, if_neg c]
      by_cases d : ng (srt (k ++ [e])) L' = true
      · rw [if_pos d, if_pos (hL _ d)]; exact hφ _
      · rw [if_neg d]
        split
        · exact h0 _
        · exact Int.le_refl _
theorem one_nn {E L : List Int} {φ : List Int → Int} (h0 : ∀ k, 0 ≤ φ k) (k : List Int) : 0 ≤ one E L φ k := by
  unfold one
  induction E with
  | nil => exact Int.le_refl _
  | cons e E ih =>
    rw [List.map_cons, List.sum_cons]
    have := h0 (srt (k ++ [e]))
    split
    · omega
    · split <;> omega
theorem paths_nn (E : List Int) : ∀ (Ls : List (List Int)) (k : List Int), 0 ≤ paths E Ls k
  | [], _ => by show (0 : Int) ≤ 1; decide
  | L :: Ls, k => one_nn (paths_nn E Ls) k
/-- limits that are nowhere smaller -/
def LeLs : List (List Int) → List (List Int) → Prop
  | [], [] => True
  | L' :: Ls', L :: Ls => (∀ P, ng P L' = true → ng P L = true) ∧ LeLs Ls' Ls
  | _, _ => False
theorem paths_mono (E : List Int) : ∀ (Ls' Ls : List (List Int)), LeLs Ls' Ls → ∀ k, paths E Ls' k ≤ paths E Ls k
  | [], [], _, _ => Int.le_refl _
  | [], _ :: _, h, _ => h.elim
  | _ :: _, [], h, _ => h.elim
  | L' :: Ls', L :: Ls, h, k => one_mono h.1 (paths_nn E Ls) (paths_mono E Ls' Ls h.2) k
def iN (L : List Nat) : List Int := L.map fun (k : Nat) => (k : Int)
/-- the number of sorted arrangements -/
def count (W : Nat) (st : List Nat) : Int := paths (up W) ((lims W st).map iN ++ [up W]) []
theorem ng_le {L L' : List Int} (hl : L.length = L'.length) (h : ∀ (j : Nat) (a b : Int), L'[j]? = some a → L[j]? = some b → a ≤ b) (P : List Int) (q : ng P L' = true) : ng P L = true := by
  unfold ng at q ⊢
  rw [List.all_eq_true] at q ⊢
  intro z hz
  obtain ⟨j, hj⟩ := List.mem_iff_getElem?.mp hz
  obtain ⟨h1, h2⟩ := List.getElem?_zip_eq_some.mp hj
  have hb := (List.getElem?_eq_some_iff.mp h2).1
  have h3 : L'[j]? = some L'[j] := List.getElem?_eq_getElem (by omega)
  have := q (z.1, L'[j]) (List.mem_iff_getElem?.mpr ⟨j, List.getElem?_zip_eq_some.mpr ⟨h1, h3⟩⟩)
  have := of_decide_eq_true this
  have := h j _ _ h3 h2
  exact decide_eq_true (by dsimp only at *; omega)
theorem leLs_snoc {x : List Int} : ∀ {A B : List (List Int)}, LeLs A B → LeLs (A ++ [x]) (B ++ [x])
  | [], [], _ => ⟨fun _ h => h, trivial⟩
  | [], _ :: _, h => h.elim
  | _ :: _, [], h => h.elim
  | _ :: _, _ :: _, h => ⟨h.1, leLs_snoc h.2⟩
theorem leLs_map {f g : Nat → List Int} : ∀ (l : List Nat), (∀ i ∈ l, ∀ P, ng P (f i) = true → ng P (g i) = true) → LeLs (l.map f) (l.map g)
  | [], _ => trivial
  | i :: l, h => ⟨h i List.mem_cons_self, leLs_map l fun j hj => h j (List.mem_cons_of_mem _ hj)⟩
theorem plc_length {W : Nat} {st : List Nat} (h : In W st) (c : Int) : ((plc (har W st) c).length : Int) = cl W c := by
  have := (plcN_ok (har W st) c _ (Nat.le_refl _)).1
  rw [har_len] at this
  rw [ct_har_end h] at this
  rw [← this]
  unfold plc plcN
  rw [har_len]
/-- the law of the counts of arrangements -/
theorem count_le {W : Nat} {st st' : List Nat} (h : In W st) (h' : In W st') (q : DomL W st st') : count W st' ≤ count W st := by
  unfold count
  refine paths_mono _ _ _ (leLs_snoc ?_) []
  unfold lims
  rw [List.map_map, List.map_map]
  refine leLs_map _ fun i _ P hP => ?_
  refine ng_le ?_ (fun j a b ha hb => ?_) P hP
  · show ((plc _ _).map _).length = ((plc _ _).map _).length
    rw [List.length_map, List.length_map]
    have a := plc_length h (1 + (i : Int))
    have b := plc_length h' (1 + (i : Int))
    omega
  · have l1 := har_len W st
    have l2 := har_len W st'
    have e := (plc_ct (xs := har W st) (ys := har W st') (c := 1 + (i : Int)) (by rw [l1, l2]) (by rw [l1, ct_har_end h, ct_har_end h'])).mpr (by rw [l1]; exact q _)
    have ha : ((plc (har W st') (1 + (i : Int))).map fun (k : Nat) => (k : Int))[j]? = some a := ha
    have hb : ((plc (har W st) (1 + (i : Int))).map fun (k : Nat) => (k : Int))[j]? = some b := hb
    rw [List.getElem?_map] at ha hb
    cases ea : (plc (har W st') (1 + (i : Int)))[j]? with
    | none => rw [ea] at ha; cases ha
    | some x =>
      cases eb : (plc (har W st) (1 + (i : Int)))[j]? with
      | none => rw [eb] at hb; cases hb
      | some y =>
        rw [ea] at ha
        rw [eb] at hb
        have := e j y x eb ea
        have ha : (x : Int) = a := by simpa using ha
        have hb : (y : Int) = b := by simpa using hb
        omega
end Nw
end
section
namespace Nw
theorem OkN.in_ {W : Nat} {st : List Nat} (ok : OkN W st) : In W st := ok.at_
theorem plain_holds : Plain := fun W st st' ok ok' => by
  have d := noGap_dom ok.in_ ok'.in_
  exact ⟨d.trans (hard_iff ok.in_ ok'.in_).symm, d.trans (lims_iff ok.in_ ok'.in_).symm⟩
end Nw
end
section
/-! for k, v in d.items(), d a dict with tuple keys (locked). -/
namespace Nw
open PySem PySem.Spec PyProof.Rows L2
section
variable {X : Cx} {pins : List (Addr × Obj)} {σ : L2.St} {H : Hp} {s : Shared} {d : Addr} {o : Obj}
theorem frzT2 {kvs : List (List L2.Key × V)} (I : L2.Inv X pins σ H s) (h : H d = some (.frz o (.dT kvs))) :
    (d == sysModules) = false ∧ ∃ (es : Array DictEntry) (ep : Nat), o.data = .dict es ep ∧ DT.Raw s.heap d es ep ∧ es.size = kvs.length ∧
      ∀ (i : Nat) (k : List L2.Key) (v : V), kvs[i]? = some (k, v) → ∃ (en : DictEntry) (q : Addr), es[i]? = some en ∧ en.key = .ref q ∧ H q = some (.tup (k.map kV)) ∧ RelV v en.val := by
  obtain ⟨hd, z, hs, xs, pr, o', es, ep, ho, hx, hdt, he, _⟩ := I.hok d _ h
  rw [hd] at ho
  cases ho
  refine ⟨hs, es, ep, hdt, ⟨o, hd, hx, hdt⟩, ?_, fun i k v e => ?_⟩
  · have l1 : es.size = xs.length := size_of_entries he
    have l2 : kvs.length = xs.length := Paired.length pr
    omega
  · obtain ⟨b, hb, e1, e2, e3⟩ := paired_get pr e
    have q := entry_at he i
    rw [hb] at q
    exact ⟨_, b.2.1, q, rfl, e2, e3⟩
end
/-- the pairs, each a new tuple of the key's own tuple and the value -/
def ItiT (d : Addr) (o : Obj) (kvs : List (List L2.Key × V)) : It :=
  ⟨fun i H => H d = some (.frz o (.dT kvs)) ∧ i < kvs.length, fun i H x H' => ∃ T k v q, kvs[i]? = some (k, v) ∧ x = .ref T ∧ H T = none ∧ H' = upd H T (.tup [.ref q, v]) ∧ H q = some (.tup (k.map kV)), fun i H => H d = some (.frz o (.dT kvs)) ∧ kvs.length ≤ i⟩
theorem turn_itemsT {P : Program} {w : World} {K : PySem.W.Frag} {d : Addr} {o : Obj} {es : Array DictEntry} {ep : Nat} {kvs : List (List L2.Key × V)} {elts : List Expr} {kk : Nat} {tpos : Pos} (it : Addr) (hod : o.data = .dict es ep) :
    Turn P w K (.Tuple elts kk tpos) (ItiT d o kvs) [it] it (fun i h => ∃ ok ov, IsItemIter h it d i kvs.length ep ok ov) where
  mem := by simp
  obj := fun i h st b hb => by
    have e : b = it := by simpa using hb
    subst e
    obtain ⟨ok, ov, e⟩ := st
    exact ⟨_, e, fun v z => nomatch z⟩
  keep := fun i h h' st k => let ⟨ok, ov, e⟩ := st; ⟨ok, ov, k it (by simp) _ e⟩
  item := by
    intro X hP hw hK hc i pins s σ H E I hf st hg
    subst hP hw hK
    obtain ⟨hd, hi⟩ := hg
    obtain ⟨hs, es', ep', hdt, hm, hsz, ent⟩ := frzT2 I hd
    obtain ⟨rfl, rfl⟩ := dict_ep hod hdt
    obtain ⟨⟨k, v⟩, hkv⟩ : ∃ p, kvs[i]? = some p := ⟨kvs[i], List.getElem?_eq_getElem hi⟩
    obtain ⟨en, q, hen, hkey, hq, rv⟩ := ent i k v hkv
    obtain ⟨ok, ov, he⟩ := st
    have hie : i < es'.size := by omega
    have hen' : es'[i] = en := by
      rw [Array.getElem?_eq_getElem hie] at hen
      exact Option.some.inj hen
    rw [← hsz] at he
    have hlt : it < s.heap.objs.size := Heap.lt_size he
    refine DT.nextI he hm hie fun h' ho hT hz hk => ?_
    rw [hen'] at hT ho
    refine ⟨_, rfl, wpAny_letOwnedTupleGo_items (s := { s with heap := h' }) ho fun h'' he' sb => ?_⟩
    have hT2 : h''.get? s.heap.objs.size = some { cls := .type "tuple", data := .seq #[en.key, en.val] } := (sb.2 _ (Nat.ne_of_gt hlt)).trans hT
    have new : ObjOk X.prog X.w (upd H s.heap.objs.size (.tup [.ref q, v])) h'' s.heap.objs.size (.tup [.ref q, v]) :=
      ⟨by show 2 ≤ sizeLine; decide, [en.key, en.val], .cons hkey (.cons rv .nil), ⟨_, hT2, rfl, _, rfl⟩⟩
    have I1 : L2.Inv X pins σ (upd H s.heap.objs.size (.tup [.ref q, v])) { s with heap := h'' } :=
      I.turnedNew (t' := s.toks) (ch := [it]) (fun b ob hb e => (sb.2 b (by simpa using hb)).trans (hk b ob (by simpa using hb) e)) hf (Nat.le_refl _) new
    refine ⟨.ref s.heap.objs.size, _, I1, rfl, ⟨_, k, v, q, hkv, rfl, I.hok.fresh (Nat.le_refl _), rfl, hq⟩, ⟨en.key, en.val, ?_⟩, fun b hb => ?_⟩
    · rw [← hsz]; exact he'
    · have e : b = it := by simpa using hb
      rw [e, upd_ne (Nat.ne_of_lt hlt)]
      exact (hf it (by simp)).1
  done := by
    intro X hP hw hK hc i pins s σ H E I hf st hg
    subst hP hw hK
    obtain ⟨hd, hi⟩ := hg
    obtain ⟨f0, f1, f2, f3, f4, f5⟩ := hf it (by simp)
    obtain ⟨hs, es', ep', hdt, hm, hsz, ent⟩ := frzT2 I hd
    obtain ⟨rfl, rfl⟩ := dict_ep hod hdt
    obtain ⟨ok, ov, he⟩ := st
    rw [← hsz] at he
    exact DT.endI (I.ok.hd hc) he hm (by omega) fun h' eb => ⟨rfl, I.turned (t' := s.toks) (fun b ob hb e => eb b ob hb e) f0 f1 f3 f4 f5⟩
  self := fun A i s Q E st h => let ⟨_, _, e⟩ := st; PySem.W.kcp_self e h
def iItemsT (td : TE) : TI := fun σ H R => td σ H fun x H1 => ∃ d o kvs, x = .ref d ∧ H1 d = some (.frz o (.dT kvs)) ∧ R (ItiT d o kvs) H1
theorem pi_itemsT {X : Cx} {e : Expr} {td : TE} {apos cpos : Pos} {elts : List Expr} {kk : Nat} {tpos : Pos} (he : PE X e td) (hbase : attributeBase e "items" X.env (eval e X.env) = eval e X.env := by rfl) (hline : (apos.endLine == cpos.line) = true := by rfl) :
    PI X (.Tuple elts kk tpos) (.Call (.Attribute e "items" apos) [] [] cpos) (iItemsT td) := by
  refine ⟨fun pins s σ H R I h => ?_⟩
  refine wpAny_Call_method (T := "dict") (id := "dict.items") hbase rfl hline PySem.F.plainAttrs_dict PySem.F.slot_dict_items PySem.F.type_dict_items (thn (he.run pins s σ H _ I h) fun u s1 ⟨x, H1, I1, rx, d, o, kvs, ex, hd, q⟩ => ?_)
  subst ex
  obtain rfl : u = Value.ref d := rx
  obtain ⟨hs, es, ep, hdt, hm, hsz, ent⟩ := frzT2 I1 hd
  refine ⟨hm.typeIs, ?_, ?_⟩
  · intro b eb
    cases eb
    obtain ⟨ob, ho, hx, _⟩ := hm
    exact ⟨ob, ho, hx.2.1⟩
  have I2 : L2.Inv X pins σ H1 { s1 with heap := s1.heap.push { cls := .type "dict_items", data := .fields #[.ref d] } } := I1.kept (t' := s1.toks) fun b ob q => Heap.get?_push_of_some _ q
  have fin : wpAny (model X.prog X.w) X.A (pyIter (.ref s1.heap.objs.size)) (PIE X pins σ (.Tuple elts kk tpos) R) X.xe { s1 with heap := s1.heap.push { cls := .type "dict_items", data := .fields #[.ref d] } } := by
    refine DT.iterI (d := d) ⟨_, Heap.get?_push_size _ rfl, rfl, rfl⟩ (hm.push _) (pi_one (tk := s1.toks) I2 _ (turn_itemsT _ hdt) ⟨.none, .none, ?_⟩ q)
    rw [← hsz]
    exact Heap.get?_push_size _ rfl
  show wpAny _ _ (callWith cpos (.builtin "dict.items") [.ref d] [] []) _ X.xe s1
  exact method_meetsIn PySem.F.slot_dict_items PySem.F.entry_dict_items rfl (PySem.evalArgs_none ⟨rfl, hm.typeIs, PySem.F.args_dict_items_1 _, _, DT.meetsItems (es := es) (ep := ep) hs, hm, fin⟩)
end Nw
end
section
/-! zip of a tuple and a list. -/
namespace Nw
open PySem PySem.Spec PyProof.Rows L2 ClX
/-- both as they stand at each turn, the items in new pairs -/
def ItZ2 (S1 S2 : Hp → List V → Prop) : It :=
  ⟨fun i H => ∃ (xs ys : List V) (x y : V), S1 H xs ∧ S2 H ys ∧ xs[i]? = some x ∧ ys[i]? = some y,
    fun i H v H' => ∃ T x y, v = .ref T ∧ H T = none ∧ H' = upd H T (.tup [x, y]) ∧ (∀ xs, S1 H xs → xs[i]? = some x) ∧ ∀ ys, S2 H ys → ys[i]? = some y,
    fun i H => ∃ xs ys : List V, S1 H xs ∧ S2 H ys ∧ i ≤ xs.length ∧ i ≤ ys.length ∧ (i = xs.length ∨ i = ys.length)⟩
section
variable {P : Program} {w : World} {K : PySem.W.Frag} {a1 a2 : Addr} {o1 o2 : Obj} {S1 S2 : Hp → List V → Prop} {Is1 Is2 : Heap → Array Value → Prop} {Ii1 Ii2 : Addr → Nat → Heap → Prop}
structure ZSt (z TI TO i1 i2 a1 a2 : Addr) (Ii1 Ii2 : Addr → Nat → Heap → Prop) (i : Nat) (h : Heap) : Prop where
  zip : IsZip h z TI TO .none
  ti : IsTupOf2 h TI (.ref i1) (.ref i2)
  to : ∃ x y, IsTupOf2 h TO x y
  it1 : Ii1 i1 i h
  it2 : Ii2 i2 i h
theorem five {z TI TO i1 i2 b : Addr} (h : b ∈ [z, TI, TO, i1, i2]) : b = z ∨ b = TI ∨ b = TO ∨ b = i1 ∨ b = i2 := by simpa using h
theorem turn_z2 (A1 : Src P w K a1 o1 S1 Is1 Ii1) (A2 : Src P w K a2 o2 S2 Is2 Ii2) {elts : List Expr} {kk : Nat} {tpos : Pos} (z TI TO i1 i2 : Addr) (Z : ZipSep2 z TI TO i1 i2 [i1, a1] [i2, a2]) :
    Turn P w K (.Tuple elts kk tpos) (ItZ2 S1 S2) [z, TI, TO, i1, i2] z (ZSt z TI TO i1 i2 a1 a2 Ii1 Ii2) where
  mem := by simp
  obj := fun i h st b hb => by
    rcases five hb with e | e | e | e | e
    · rw [e]; exact ⟨_, st.zip, fun v q => nomatch q⟩
    · rw [e]; exact ⟨_, st.ti, fun v q => nomatch q⟩
    · rw [e]; obtain ⟨x, y, q⟩ := st.to; exact ⟨_, q, fun v q => nomatch q⟩
    · rw [e]; exact A1.iobj i1 i h st.it1
    · rw [e]; exact A2.iobj i2 i h st.it2
  keep := fun i h h' st k => ⟨k z (by simp) _ st.zip, k TI (by simp) _ st.ti, let ⟨x, y, q⟩ := st.to; ⟨x, y, k TO (by simp) _ q⟩, A1.iat i1 i h h' st.it1 fun o q => k i1 (by simp) o q, A2.iat i2 i h h' st.it2 fun o q => k i2 (by simp) o q⟩
  item := by
    intro X hP hw hK hc i pins s σ H E I hf st hg
    obtain ⟨xs, ys, x, y, hqx, hqy, hx, hy⟩ := hg
    obtain ⟨its, rv, p⟩ := A1.get X hP hw hK pins σ H s xs I hqx
    obtain ⟨its2, rv2, p2⟩ := A2.get X hP hw hK pins σ H s ys I hqy
    obtain ⟨u, hu, ru⟩ := rv.get hx
    obtain ⟨u2, hu2, ru2⟩ := rv2.get hy
    obtain ⟨x0, y0, hTO⟩ := st.to
    have l1 : i < its.toArray.size := by
      have := (List.getElem?_eq_some_iff.mp hu).1
      simpa using this
    have l2 : i < its2.toArray.size := by
      have := (List.getElem?_eq_some_iff.mp hu2).1
      simpa using this
    have D1 := A1.draws X.A.in1 i1 its.toArray (I.ok.hd hc) (A1.apartI _ _ _ _ st.it1 p)
    have D2 := A2.draws X.A.in1 i2 its2.toArray (I.ok.hd hc) (A2.apartI _ _ _ _ st.it2 p2)
    have hzl : z < s.heap.objs.size := Heap.lt_size st.zip
    have lt : ∀ b ∈ [z, TI, TO, i1, i2], b < s.heap.objs.size := fun b hb => by
      rcases five hb with e | e | e | e | e
      · rw [e]; exact hzl
      · rw [e]; exact Heap.lt_size st.ti
      · rw [e]; exact Heap.lt_size hTO
      · rw [e]; obtain ⟨_, q, _⟩ := A1.iobj i1 i _ st.it1; exact Heap.lt_size q
      · rw [e]; obtain ⟨_, q, _⟩ := A2.iobj i2 i _ st.it2; exact Heap.lt_size q
    subst hP hw
    refine wpAny_pyNext_zipD2_item Z D1 D2 st.zip st.ti hTO ⟨st.it1, p⟩ ⟨st.it2, p2⟩ l1 l2 fun x1 x2 h' tk q1 q2 z' TO' st1 st2 hT hsz hk => ?_
    obtain rfl : x1 = u := by
      have h : its.toArray[i]? = some u := by simpa using hu
      have q1 : its.toArray[i]? = some x1 := q1
      rw [h] at q1
      exact (Option.some.inj q1).symm
    obtain rfl : x2 = u2 := by
      have h : its2.toArray[i]? = some u2 := by simpa using hu2
      have q2 : its2.toArray[i]? = some x2 := q2
      rw [h] at q2
      exact (Option.some.inj q2).symm
    refine ⟨_, rfl, wpAny_letOwnedTupleGo_zip (s := { s with heap := h', toks := tk }) z' fun h'' z'' sb => ?_⟩
    have hT2 : h''.get? s.heap.objs.size = some { cls := .type "tuple", data := .seq #[x1, x2] } := (sb.2 _ (Nat.ne_of_gt hzl)).trans hT
    have new : ObjOk X.prog X.w (upd H s.heap.objs.size (.tup [x, y])) h'' s.heap.objs.size (.tup [x, y]) :=
      ⟨by show 2 ≤ sizeLine; decide, [x1, x2], .cons ru (.cons ru2 .nil), ⟨_, hT2, rfl, _, rfl⟩⟩
    have I1 : Inv X pins σ (upd H s.heap.objs.size (.tup [x, y])) { s with heap := h'', toks := tk } :=
      I.turnedNew (ch := [z, TI, TO, i1, i2]) (fun c o hb q => (sb.2 c (fun q' => hb (by simp [q']))).trans (hk c o (fun q' => hb (by simp [q'])) (fun q' => hb (by simp [q'])) (fun q' => hb (by simp [q'])) (fun q' => hb (by simp [q'])) q)) hf (Nat.le_refl _) new
    refine ⟨.ref s.heap.objs.size, _, I1, rfl, ⟨_, x, y, rfl, I.hok.fresh (Nat.le_refl _), rfl, fun l hl => by rw [A1.inj X rfl rfl hK pins σ H s l xs I hl hqx]; exact hx, fun l hl => by rw [A2.inj X rfl rfl hK pins σ H s l ys I hl hqy]; exact hy⟩, ⟨z'', ?_, ⟨x1, x2, ?_⟩, ?_, ?_⟩, fun c hcm => ?_⟩
    · exact (sb.2 _ Z.TIz).trans (hk _ _ Z.TIz Z.TITO Z.TIi1 Z.TIi2 st.ti)
    · exact (sb.2 _ Z.TOz).trans TO'
    · exact A1.iat i1 (i + 1) _ _ st1.1 fun o q => (sb.2 _ (Ne.symm Z.zi1)).trans q
    · exact A2.iat i2 (i + 1) _ _ st2.1 fun o q => (sb.2 _ (Ne.symm Z.zi2)).trans q
    · rw [upd_ne (Nat.ne_of_lt (lt c hcm))]
      exact (hf c hcm).1
  done := by
    intro X hP hw hK hc i pins s σ H E I hf st hg
    obtain ⟨xs, ys, hqx, hqy, n1, n2, hend⟩ := hg
    obtain ⟨its, rv, p⟩ := A1.get X hP hw hK pins σ H s xs I hqx
    obtain ⟨its2, rv2, p2⟩ := A2.get X hP hw hK pins σ H s ys I hqy
    obtain ⟨x0, y0, hTO⟩ := st.to
    have l1 := rv.length
    have l2 := rv2.length
    have D1 := A1.draws X.A.in1 i1 its.toArray (I.ok.hd hc) (A1.apartI _ _ _ _ st.it1 p)
    have D2 := A2.draws X.A.in1 i2 its2.toArray (I.ok.hd hc) (A2.apartI _ _ _ _ st.it2 p2)
    subst hP hw
    refine wpAny_pyNext_zipD2_end (i := i) Z D1 D2 st.zip st.ti hTO ⟨st.it1, p⟩ ⟨st.it2, p2⟩ (by simp; omega) (by simp; omega) (by simp; omega) fun h' tk hk => ⟨rfl, I.turnedL (t' := tk) (ch := [z, TI, TO, i1, i2]) (fun c o hb q =>
      hk c o (fun q' => hb (by simp [q'])) (fun q' => hb (by simp [q'])) (fun q' => hb (by simp [q'])) (fun q' => hb (by simp [q'])) q) hf⟩
  self := fun A i s Q E st h => wpAny_pyIter_zip st.zip h
end
def iZTL (K : PySem.W.Frag) (ta : TA) : TI := fun σ H R => ta σ H fun vs H1 => ∃ a b xs ys, vs = [.ref a, .ref b] ∧ SqT K H1 a xs ∧ SqL K H1 b ys ∧ R (ItZ2 (fun H xs => SqT K H a xs) fun H xs => SqL K H b xs) H1
theorem nn {a b : Nat} (h : a < b ∨ b < a) : @Ne Addr a b := fun e => by
  have e : a = b := e
  omega
theorem nmem2 {a b c : Nat} (h1 : a < b ∨ b < a) (h2 : a < c ∨ c < a) : (a : Addr) ∉ ([b, c] : List Addr) := fun h => by
  rcases List.mem_cons.mp h with h | h
  · exact nn h1 h
  · exact nn h2 (List.mem_singleton.mp h)
theorem sep_new (I a1 a2 : Nat) (h1 : a1 < I) (h2 : a2 < I) : ZipSep2 (I + 4) (I + 2) (I + 3) I (I + 1) [I, a1] [I + 1, a2] where
  TIz := nn (by omega)
  TOz := nn (by omega)
  TITO := nn (by omega)
  TIi1 := nn (by omega)
  mem1 := List.mem_cons_self
  zf1 := nmem2 (by omega) (by omega)
  Tf1 := nmem2 (by omega) (by omega)
  TIi2 := nn (by omega)
  mem2 := List.mem_cons_self
  zf2 := nmem2 (by omega) (by omega)
  Tf2 := nmem2 (by omega) (by omega)
  sep1_2 := nmem2 (by omega) (by omega)
  sep2_1 := nmem2 (by omega) (by omega)
theorem pi_ztl {X : Cx} {e e2 : Expr} {ta : TA} {p pos tpos : Pos} {elts : List Expr} {kk : Nat} (hg : Gl X "zip") (hm : X.mg "zip" = none) (ha : PA X [e, e2] ta)
    (hs : starEach [e, e2] X.env = (false, eval e X.env) :: starEach [e2] X.env := by rfl) (hpl : (backTo pos (starEach [e2] X.env)).any (·.1) = false := by rfl) :
    PI X (.Tuple elts kk tpos) (.Call (.Name "zip" p) [e, e2] [] pos) (iZTL X.K ta) := by
  refine ⟨fun pins s σ H R I h => ?_⟩
  refine Call_ (ld_blt I hg hm PyProof.Rows.boot_zip (PyProof.Rows.callWith_type1 (thn (ha.run pos pins s σ H _ I h) fun us s1 ⟨vs, H1, I1, r1, q1⟩ => ?_) hs hpl))
  obtain ⟨a, b, xs, ys, ex, hqx, hqy, q⟩ := q1
  subst ex
  cases r1 with
  | cons r rr =>
    cases rr with
    | cons r' rr =>
      cases rr
      cases r
      cases r'
      have A1 := src_tup X.prog X.w X.K a
      have A2 := src_list X.prog X.w X.K b
      obtain ⟨its, rv, p1⟩ := A1.get X rfl rfl rfl pins σ H1 s1 xs I1 hqx
      obtain ⟨its2, rv2, p2⟩ := A2.get X rfl rfl rfl pins σ H1 s1 ys I1 hqy
      have la : a < s1.heap.objs.size := by obtain ⟨o, ho, _⟩ := p1; exact Heap.lt_size ho
      have lb : b < s1.heap.objs.size := by obtain ⟨o, ho, _⟩ := p2; exact Heap.lt_size ho
      refine zip_begins2 A1.begins A2.begins ⟨_, p1⟩ ⟨_, p2⟩ fun h' hz hTI hTO h1 h2 hsz hk => wpAny_pyIter_zip hz ?_
      have I2 : Inv X pins σ H1 { s1 with heap := h' } := I1.kept (t' := s1.toks) hk
      refine ⟨s1.heap.objs.size + 4, [s1.heap.objs.size + 4, s1.heap.objs.size + 2, s1.heap.objs.size + 3, s1.heap.objs.size, s1.heap.objs.size + 1], _, _, H1, rfl, I2, turn_z2 A1 A2 _ _ _ _ _ (sep_new _ a b la lb), ⟨hz, hTI, ⟨_, _, hTO⟩, A1.begun _ _ h1, A2.begun _ _ h2⟩, fun c hcm => ?_, q⟩
      have hle : s1.heap.objs.size ≤ c := by
        rcases five hcm with e | e | e | e | e
        · rw [e]; exact Nat.le_add_right _ _
        · rw [e]; exact Nat.le_add_right _ _
        · rw [e]; exact Nat.le_add_right _ _
        · rw [e]; exact Nat.le_refl _
        · rw [e]; exact Nat.le_add_right _ _
      exact I1.fpOk hle (I1.hok.fresh hle)
/-- a list made of its pairs -/
theorem lc_z2 {S1 S2 : Hp → List V → Prop} {xs ys : List V} {g : TG} {tt : TT} {te : TE} {vs : List Nat} {σ : L2.St} {H1 : Hp} {D : Addr} {Qd : Hp → Prop} (hxy : ys.length = xs.length) (Pv : Nat → Hp → Prop) (h0 : Pv 0 (upd H1 D (.lst []))) (hl : ∀ i H, Pv i H → S1 H xs ∧ S2 H ys)
    (hs : ∀ (i : Nat) (x y : V) (T : Addr) (H : Hp), xs[i]? = some x → ys[i]? = some y → Pv i H → H T = none → g (.ref T) (wipe σ vs) (upd H T (.tup [x, y])) fun σ2 H2 => wipe σ2 vs = wipe σ vs ∧ tt σ2 H2 fun b H3 =>
      if b = true then te σ2 H3 fun y H4 => ∃ acc, H4 D = some (.lst acc) ∧ acc.length < sizeLine ∧ Pv (i + 1) (upd H4 D (.lst (acc ++ [y]))) else Pv (i + 1) H3) (hd : ∀ H, Pv xs.length H → Qd H) :
    ∃ W : Nat → Nat → Hp → Prop, (∃ m, W 0 m (upd H1 D (.lst []))) ∧ ∀ i m H, W i m H →
      ((ItZ2 S1 S2).stop i H ∧ Qd H) ∨ ((ItZ2 S1 S2).go i H ∧ ∃ Nx : Hp → Prop, (∀ H', Nx H' → ∃ m', m' < m ∧ W (i + 1) m' H') ∧ ∀ x H', (ItZ2 S1 S2).yld i H x H' → g x (wipe σ vs) H' fun σ2 H2 => wipe σ2 vs = wipe σ vs ∧ tt σ2 H2 fun b H3 =>
        if b = true then te σ2 H3 fun y H4 => ∃ acc, H4 D = some (.lst acc) ∧ acc.length < sizeLine ∧ Nx (upd H4 D (.lst (acc ++ [y]))) else Nx H3) := by
  refine ⟨fun i m H => m = xs.length - i ∧ i ≤ xs.length ∧ Pv i H, ⟨_, rfl, Nat.zero_le _, h0⟩, ?_⟩
  rintro i m H ⟨rfl, hi, p⟩
  obtain ⟨q1, q2⟩ := hl i H p
  by_cases hlt : i < xs.length
  · refine .inr ⟨⟨xs, ys, _, _, q1, q2, List.getElem?_eq_getElem hlt, List.getElem?_eq_getElem (by omega)⟩, Pv (i + 1), fun H' p' => ⟨xs.length - (i + 1), by omega, rfl, hlt, p'⟩, fun x H' y => ?_⟩
    obtain ⟨T, x', y', rfl, hT, rfl, f1, f2⟩ := y
    exact hs i x' y' T H (f1 xs q1) (f2 ys q2) p hT
  · have e : i = xs.length := by omega
    subst e
    exact .inl ⟨⟨xs, ys, q1, q2, Nat.le_refl _, by omega, .inl rfl⟩, hd H p⟩
end Nw
end
section
/-! Promises: is_nowhere_greater. -/
namespace Nw
open PySem PySem.Spec PyProof.Rows L2 ClX
section
variable {P : Program} {w : World} {K : PySem.W.Frag} {mg : Str → Option Value} {base : Heap}
def spNow : Sp := fun vs H Q _ => ∃ (p l : Addr) (Ps Ls : List Int), vs = [.ref p, .ref l] ∧ H p = some (.tup (iV Ps)) ∧ H l = some (.lst (iV Ls)) ∧ Ls.length = Ps.length ∧ Ps.length ≤ 1000 ∧ ∀ H', Same H H' → Q (.bl (ng Ps Ls)) H'
theorem ok_is_nowhere_greater (t : Tx K mg base) : Okd P w K mg base 1 d_is_nowhere_greater ["places", "limit"] spNow := by
  have S : FnScope ["places", "limit", "place", "greatest"] ["places", "limit"] d_is_nowhere_greater.scope := ⟨rfl, rfl, rfl, by decide +kernel, rfl, by decide +kernel, by decide +kernel⟩
  refine okd_of t 31 rfl S rfl rfl (fun _ _ _ _ _ _ us hl => match us, hl with | [_, _], _ => rfl) (fun vs H Q E h => ?_) fun cdv A outer s H vs Q E hr h => ?_
  · obtain ⟨_, _, _, _, rfl, _⟩ := h
    rfl
  · obtain ⟨p, l, Ps, Ls, rfl, hp, hl, hn, hx, hq⟩ := h
    refine ⟨_, pss_one (ps_ret (pe_callB (cr_all rfl) (by rfl) t.all (by decide +kernel) (pa_cons (pe_lc (own := [("place", 2), ("greatest", 3)]) (tt := tYes) rfl S.nd (pi_ztl (by rfl) t.zip (pa_cons (pv 0) (pa_cons (pv 1) pa_nil)))
      (blkOk_by (N := ["places", "limit", "place", "greatest"]) (sc := d_is_nowhere_greater.scope) (by decide +kernel))
      (fun _ _ _ _ _ => pg_tupK (K := K) (n := 2) (by rfl) (pgs_cons (pg_name (i := 2) S.nd rfl (Or.inl rfl)) (pgs_cons (pg_name (i := 3) S.nd rfl (Or.inl rfl)) pgs_nil))) (fun _ _ _ _ _ => pts_nil) (fun _ _ _ _ _ => pe_cmpR op_le (pv 2) (pv 3) (nomark _))) pa_nil))), ?_⟩
    refine ⟨_, rfl, _, rfl, p, l, iV Ps, iV Ls, rfl, SqT.of hp, SqL.of hl, fun D hD => ?_⟩
    refine lc_z2 (xs := iV Ps) (ys := iV Ls) (by rw [iV_len, iV_len, hn]) (fun i H' => Same H H' ∧ H' D = some (.lst ((((Ps.zip Ls).take i).map fun p => decide (p.1 ≤ p.2)).map V.bl)))
      ⟨same_new hD, upd_same⟩ (fun i H' ⟨b0, _⟩ => ⟨SqT.of (b0 _ _ hp), SqL.of (b0 _ _ hl)⟩) (fun i x y T H' hx' hy' ⟨b0, b3⟩ hT => ?_) (fun H' ⟨b0, b3⟩ => ?_)
    · have hi : i < Ps.length := by
        have := (List.getElem?_eq_some_iff.mp hx').1
        simpa using this
      have hi2 : i < Ls.length := by omega
      rw [iat hi] at hx'
      rw [iat hi2] at hy'
      obtain rfl := (Option.some.inj hx').symm
      obtain rfl := (Option.some.inj hy').symm
      have sT : Same H' (upd H' T (.tup [V.int (gi Ps i), V.int (gi Ls i)])) := same_new hT
      have hDT : D ≠ T := ne_of_none b3 hT
      refine ⟨T, _, rfl, SqT.of upd_same, rfl, _, _, rfl, _, _, rfl, rfl, rfl, ?_⟩
      refine ⟨_, rfl, _, rfl, _, _, rfl, rfl, ?_⟩
      refine ⟨_, (upd_ne hDT).trans b3, ?_, fun q' o hh => (upd_ne (ne_of_none hh hD)).trans (sT _ _ (b0 q' o hh)), ?_⟩
      · refine small1000 ?_
        rw [List.length_map, List.length_map, List.length_take, List.length_zip]
        omega
      · have hz : i < (Ps.zip Ls).length := by
          rw [List.length_zip]
          omega
        rw [upd_same, List.take_succ_eq_append_getElem hz, List.map_append, List.map_append, List.map_cons, List.map_nil, List.map_cons, List.map_nil, List.getElem_zip, gi_get hi, gi_get hi2]
    · rw [iV_len, List.take_of_length_le (by rw [List.length_zip]; omega)] at b3
      refine ⟨D, _, rfl, SqL.of b3, ?_⟩
      have := hq H' b0
      unfold ng at this
      rw [List.all_map]
      exact this
end
end Nw
end
section
/-! The ways: plain tables, and how they stand in a dict with tuple keys. -/
namespace Nw
open PySem PySem.Spec PyProof.Rows L2 ClX
abbrev Ways := List (List Int × Int)
/-- c more at k -/
def put (ws : Ways) (k : List Int) (c : Int) : Ways := if (ws.any fun p => decide (p.1 = k)) = true then ws.map (fun p => if p.1 = k then (p.1, p.2 + c) else p) else ws ++ [(k, c)]
def wsum (φ : List Int → Int) (ws : Ways) : Int := (ws.map fun p => p.2 * φ p.1).sum
theorem wsum_nil (φ : List Int → Int) : wsum φ [] = 0 := rfl
theorem wsum_cons (φ : List Int → Int) (p : List Int × Int) (ws : Ways) : wsum φ (p :: ws) = p.2 * φ p.1 + wsum φ ws := by unfold wsum; rw [List.map_cons, List.sum_cons]
theorem wsum_append (φ : List Int → Int) (a b : Ways) : wsum φ (a ++ b) = wsum φ a + wsum φ b := by unfold wsum; rw [List.map_append, List.sum_append]
theorem map_off {ws : Ways} {k : List Int} {c : Int} (h : ∀ p ∈ ws, p.1 ≠ k) : ws.map (fun p => if p.1 = k then (p.1, p.2 + c) else p) = ws := by
  induction ws with
  | nil => rfl
  | cons p ws ih => rw [List.map_cons, if_neg (h p List.mem_cons_self), ih fun q hq => h q (List.mem_cons_of_mem _ hq)]
theorem wsum_map (φ : List Int → Int) (k : List Int) (c : Int) : ∀ {ws : Ways}, (ws.map (·.1)).Nodup → (ws.any fun p => decide (p.1 = k)) = true → wsum φ (ws.map fun p => if p.1 = k then (p.1, p.2 + c) else p) = wsum φ ws + c * φ k
  | [], _, h => by simp at h
  | p :: ws, hn, h => by
    rw [List.map_cons, List.nodup_cons] at hn
    rw [List.map_cons, wsum_cons, wsum_cons]
    by_cases e : p.1 = k
    · rw [if_pos e, map_off fun q hq z => hn.1 (by rw [e, ← z]; exact List.mem_map_of_mem hq)]
      dsimp only
      rw [Int.add_mul, e]
      omega
    · rw [if_neg e]
      have h' : (ws.any fun p => decide (p.1 = k)) = true := by
        rw [List.any_cons, decide_eq_false e, Bool.false_or] at h
        exact h
      rw [wsum_map φ k c hn.2 h']
      omega
theorem wsum_put (φ : List Int → Int) {ws : Ways} (hn : (ws.map (·.1)).Nodup) (k : List Int) (c : Int) : wsum φ (put ws k c) = wsum φ ws + c * φ k := by
  unfold put
  split
  · rename_i h
    exact wsum_map φ k c hn h
  · rw [wsum_append, wsum_cons, wsum_nil]; dsimp only; omega
theorem put_keys {ws : Ways} (k : List Int) (c : Int) : (put ws k c).map (·.1) = if (ws.any fun p => decide (p.1 = k)) = true then ws.map (·.1) else ws.map (·.1) ++ [k] := by
  unfold put
  split
  · rw [List.map_map]
    refine List.map_congr_left fun p _ => ?_
    show (if p.1 = k then (p.1, p.2 + c) else p).1 = p.1
    split <;> rfl
  · rw [List.map_append]; rfl
theorem put_nodup {ws : Ways} (hn : (ws.map (·.1)).Nodup) (k : List Int) (c : Int) : ((put ws k c).map (·.1)).Nodup := by
  rw [put_keys]
  split
  · exact hn
  · rename_i h
    rw [List.nodup_append]
    refine ⟨hn, by simp, fun a ha b hb e => h ?_⟩
    obtain ⟨p, hp, rfl⟩ := List.mem_map.mp ha
    rw [List.mem_singleton.mp hb] at e
    exact List.any_eq_true.mpr ⟨p, hp, decide_eq_true e⟩
theorem put_mem {ws : Ways} {k : List Int} {c : Int} {p : List Int × Int} (h : p ∈ put ws k c) : p.1 = k ∨ ∃ q ∈ ws, q.1 = p.1 := by
  have : p.1 ∈ (put ws k c).map (·.1) := List.mem_map_of_mem h
  rw [put_keys] at this
  split at this
  · obtain ⟨q, h1, h2⟩ := List.mem_map.mp this
    exact .inr ⟨q, h1, h2⟩
  · rcases List.mem_append.mp this with z | z
    · obtain ⟨q, h1, h2⟩ := List.mem_map.mp z
      exact .inr ⟨q, h1, h2⟩
    · exact .inl (List.mem_singleton.mp z)
theorem put_len (ws : Ways) (k : List Int) (c : Int) : (put ws k c).length ≤ ws.length + 1 := by
  unfold put
  split
  · rw [List.length_map]; omega
  · rw [List.length_append]; simp
/-! ### as a dict -/
def kI (k : List Int) : List L2.Key := k.map Sum.inl
theorem kI_inj {a b : List Int} : kI a = kI b ↔ a = b := by
  constructor
  · intro h
    have e : ∀ l : List Int, (kI l).map (fun x => match x with | .inl i => i | .inr _ => (0 : Int)) = l := fun l => by unfold kI; rw [List.map_map]; exact List.map_id _
    rw [← e a, h, e b]
  · intro h; rw [h]
theorem kI_V (k : List Int) : (kI k).map kV = iV k := by unfold kI iV; rw [List.map_map]; rfl
def enc (p : List Int × Int) : List L2.Key × V := (kI p.1, .int p.2)
def eW (ws : Ways) : List (List L2.Key × V) := ws.map enc
theorem eW_len (ws : Ways) : (eW ws).length = ws.length := List.length_map _
theorem any_enc (ws : Ways) (k : List Int) : ((eW ws).any fun kv => decide (kv.1 = kI k)) = (ws.any fun p => decide (p.1 = k)) := by
  unfold eW
  rw [List.any_map]
  congr 1
  funext p
  show decide (kI p.1 = kI k) = decide (p.1 = k)
  by_cases e : p.1 = k
  · rw [decide_eq_true e, decide_eq_true (kI_inj.mpr e)]
  · rw [decide_eq_false e, decide_eq_false fun z => e (kI_inj.mp z)]
/-- what stands at k -/
def getW (ws : Ways) (k : List Int) : Option Int := (ws.find? fun p => decide (p.1 = k)).map (·.2)
theorem val_enc (ws : Ways) (k : List Int) : valV (eW ws) (kI k) = (getW ws k).map V.int := by
  unfold valV eW getW
  induction ws with
  | nil => rfl
  | cons p ws ih =>
    rw [List.map_cons, List.find?_cons, List.find?_cons]
    by_cases e : p.1 = k
    · have e1 : decide ((enc p).1 = kI k) = true := decide_eq_true (kI_inj.mpr e)
      rw [e1, decide_eq_true e]; rfl
    · have e1 : decide ((enc p).1 = kI k) = false := decide_eq_false fun z => e (kI_inj.mp z)
      rw [e1, decide_eq_false e]
      exact ih
theorem get_none {ws : Ways} {k : List Int} (h : ¬ (ws.any fun p => decide (p.1 = k)) = true) : getW ws k = none := by
  unfold getW
  rw [List.find?_eq_none.mpr fun p hp z => h (List.any_eq_true.mpr ⟨p, hp, z⟩)]
  rfl
theorem get_at {k : List Int} : ∀ {ws : Ways}, (ws.map (·.1)).Nodup → ∀ {p : List Int × Int}, p ∈ ws → p.1 = k → getW ws k = some p.2
  | [], _, _, h, _ => nomatch h
  | q :: ws, hn, p, h, e => by
    rw [List.map_cons, List.nodup_cons] at hn
    unfold getW
    rw [List.find?_cons]
    rcases List.mem_cons.mp h with z | z
    · rw [← z, decide_eq_true e]; rfl
    · have ne : q.1 ≠ k := fun y => hn.1 (by rw [y, ← e]; exact List.mem_map_of_mem z)
      rw [decide_eq_false ne]
      exact get_at hn.2 z e
theorem put_enc {ws : Ways} (hn : (ws.map (·.1)).Nodup) (k : List Int) (c : Int) : putK (eW ws) (kI k) (.int ((getW ws k).getD 0 + c)) = eW (put ws k c) := by
  unfold putK put
  rw [any_enc]
  by_cases h : (ws.any fun p => decide (p.1 = k)) = true
  · rw [if_pos h, if_pos h]
    unfold eW
    rw [List.map_map, List.map_map]
    refine List.map_congr_left fun p hp => ?_
    show (if (enc p).1 = kI k then ((enc p).1, V.int ((getW ws k).getD 0 + c)) else enc p) = enc (if p.1 = k then (p.1, p.2 + c) else p)
    by_cases e : p.1 = k
    · have e1 : (enc p).1 = kI k := kI_inj.mpr e
      rw [if_pos e1, if_pos e, get_at hn hp e]; rfl
    · have e1 : ¬ (enc p).1 = kI k := fun z => e (kI_inj.mp z)
      rw [if_neg e1, if_neg e]
  · rw [if_neg h, if_neg h, get_none h]
    unfold eW
    rw [List.map_append]
    show _ ++ [(kI k, V.int (0 + c))] = _ ++ [(kI k, V.int c)]
    rw [Int.zero_add]
end Nw
end
section
/-! Promises: extended_ways. -/
namespace Nw
open PySem PySem.Spec PyProof.Rows L2 ClX
theorem one_snoc (E : List Int) (e : Int) (L : List Int) (φ : List Int → Int) (k : List Int) : one (E ++ [e]) L φ k = one E L φ k + if e ∈ k then 0 else if ng (srt (k ++ [e])) L = true then φ (srt (k ++ [e])) else 0 := by
  unfold one
  rw [List.map_append, List.sum_append, List.map_cons, List.map_nil, List.sum_cons, List.sum_nil, Int.add_zero]
theorem for_itemsT {d : Addr} {o : Obj} {kvs : List (List L2.Key × V)} {g : TG} {tb : TS} {D : Ends} {σ : L2.St} {H : Hp} (Pv : Nat → L2.St → Hp → Prop) (h0 : Pv 0 σ H) (hq : ∀ i σ H, Pv i σ H → H d = some (.frz o (.dT kvs)))
    (hs : ∀ (i : Nat) (k : List L2.Key) (v : V) (q T : Addr) (σ : L2.St) (H : Hp), kvs[i]? = some (k, v) → Pv i σ H → H T = none → H q = some (.tup (k.map kV)) → g (.ref T) σ (upd H T (.tup [.ref q, v])) fun σ2 H2 => tb { D with nx := Pv (i + 1), ct := Pv (i + 1), bk := D.nx } σ2 H2) (hd : ∀ σ H, Pv kvs.length σ H → D.nx σ H) :
    ∃ W : Nat → Nat → L2.St → Hp → Prop, (∃ m, W 0 m σ H) ∧ ∀ i m σ H, W i m σ H →
      ((ItiT d o kvs).stop i H ∧ D.nx σ H) ∨ ((ItiT d o kvs).go i H ∧ ∃ N : L2.St → Hp → Prop, (∀ σ' H', N σ' H' → ∃ m', m' < m ∧ W (i + 1) m' σ' H') ∧ ∀ v H', (ItiT d o kvs).yld i H v H' → g v σ H' fun σ2 H2 => tb { D with nx := N, ct := N, bk := D.nx } σ2 H2) := by
  refine ⟨fun i m σ H => m = kvs.length - i ∧ i ≤ kvs.length ∧ Pv i σ H, ⟨kvs.length, rfl, Nat.zero_le _, h0⟩, ?_⟩
  rintro i m σ H ⟨rfl, hi, p⟩
  have q := hq i σ H p
  by_cases hlt : i < kvs.length
  · refine .inr ⟨⟨q, hlt⟩, Pv (i + 1), fun σ' H' p' => ⟨kvs.length - (i + 1), by omega, rfl, hlt, p'⟩, fun v H' y => ?_⟩
    obtain ⟨T, k, v', qa, h1, rfl, h2, rfl, h3⟩ := y
    exact hs i k v' qa T σ H h1 p h2 h3
  · have e : i = kvs.length := by omega
    subst e
    exact .inl ⟨⟨q, Nat.le_refl _⟩, hd σ H p⟩
/-- a table as it may stand: keys of length m, each once -/
structure OkW (m : Nat) (ws : Ways) : Prop where
  nd : (ws.map (·.1)).Nodup
  len : ∀ p ∈ ws, p.1.length = m
theorem OkW.nil (m : Nat) : OkW m [] := ⟨List.nodup_nil, fun _ h => nomatch h⟩
theorem OkW.put {m : Nat} {ws : Ways} (h : OkW m ws) {k : List Int} (hk : k.length = m) (c : Int) : OkW m (put ws k c) := ⟨put_nodup h.nd k c, fun p hp => by
  rcases put_mem hp with e | ⟨q, h1, h2⟩
  · rw [e]; exact hk
  · rw [← h2]; exact h.len q h1⟩
section
variable {P : Program} {w : World} {K : PySem.W.Frag} {mg : Str → Option Value} {base : Heap}
def spExt : Sp := fun vs H Q _ => ∃ (d e l : Addr) (ws : Ways) (E L : List Int) (m : Nat), vs = [.ref d, .ref e, .ref l] ∧ H d = some (.dT (eW ws)) ∧ H e = some (.lst (iV E)) ∧ H l = some (.lst (iV L)) ∧ OkW m ws ∧ L.length = m + 1 ∧ m < 60 ∧ ws.length * E.length < 100000 ∧
  ∀ H' r ws', Same H H' → H' r = some (.dT (eW ws')) → OkW (m + 1) ws' → ws'.length ≤ ws.length * E.length → (∀ φ, wsum φ ws' = wsum (one E L φ) ws) → Q (.ref r) H'
theorem ok_extended_ways (t : Tx K mg base) : Okd P w K mg base 2 d_extended_ways ["ways", "everywhere", "limit"] spExt := by
  have S : FnScope ["ways", "everywhere", "limit", "result", "places", "count", "place", "chosen"] ["ways", "everywhere", "limit"] d_extended_ways.scope := ⟨rfl, rfl, rfl, by decide +kernel, rfl, by decide +kernel, by decide +kernel⟩
  have G : Okd P w K mg base 1 d_is_nowhere_greater ["places", "limit"] spNow := ok_is_nowhere_greater t
  refine okd_of t 32 rfl S rfl rfl (fun _ _ _ _ _ _ us hl => match us, hl with | [_, _, _], _ => rfl) (fun vs H Q E h => ?_) fun cdv A outer s H vs Q E hr h => ?_
  · obtain ⟨_, _, _, _, _, _, _, rfl, _⟩ := h
    rfl
  · obtain ⟨d, e, l, ws, Ev, L, m, rfl, hd, he, hl, ok, hL, hm, hz, hq⟩ := h
    refine ⟨_, pss_cons (ps_set (i := 3) S.nd rfl (Or.inl rfl) pe_dnewT)
      (pss_cons (ps_lock (ps_for PassesOwn.leaving rfl (pi_itemsT (pv 0)) (pg_tup (by rfl) (pgs_cons (pg_name (i := 4) S.nd rfl (Or.inl rfl)) (pgs_cons (pg_name (i := 5) S.nd rfl (Or.inl rfl)) pgs_nil)))
        (pss_one (ps_for PassesOwn.leaving rfl (pi_list (pv 1)) (pg_name (i := 6) S.nd rfl (Or.inl rfl))
          (pss_one (ps_if (pt_cmpR op_notIn_seq (pv 6) (pv 4) (by rfl))
            (pss_cons (ps_set (i := 7) S.nd rfl (Or.inl rfl) (pe_callTy call_tuple_of (by rfl) t.tuple (by decide +kernel) (pa_cons (pe_callB cr_sorted (by rfl) t.sorted (by decide +kernel) (pa_cons (pe_lst (StX.pa_star (pv 4) (pa_cons (pv 6) pa_nil))) pa_nil)) pa_nil)))
              (pss_one (ps_if (pt_val (pe_cl G hr (by rfl) (t.g 26) (pa_cons (pv 7) (pa_cons (pv 2) pa_nil))))
                (pss_one (ps_dput (hu_of hr) (pv 3) (pv 7) (pe_op op_add (pe_dget2 (hu_of hr) (pv 3) (pv 7) pe_int ⟨rfl, rfl, rfl, rfl⟩) (pv 5)) (by rfl))) pss_nil)))
            pss_nil))))))
      (pss_one (ps_ret (pv 3)))), ?_⟩
    intro r hr0
    have k1 : ∀ b o, H b = some o → upd H r (.dT []) b = some o := fun b o h => (upd_ne (ne_of_none h hr0)).trans h
    refine ⟨d, _, k1 _ _ hd, trivial, fun od => ?_⟩
    have hrd : r ≠ d := fun z => by rw [z] at hr0; rw [hr0] at hd; cases hd
    refine ⟨_, rfl, d, od, eW ws, rfl, upd_same, ?_⟩
    refine for_itemsT (kvs := eW ws) (fun i σ H' => ∃ z4 z5 z6 z7 ws', σ = [some (.ref d), some (.ref e), some (.ref l), some (.ref r), z4, z5, z6, z7] ∧ Mut d H H' ∧ H' d = some (.frz od (.dT (eW ws))) ∧ H' r = some (.dT (eW ws')) ∧ OkW (m + 1) ws' ∧ ws'.length ≤ i * Ev.length ∧ ∀ φ, wsum φ ws' = wsum (one Ev L φ) (ws.take i))
      ⟨_, _, _, _, [], rfl, fun b o hb h => (upd_ne hb).trans (k1 b o h), upd_same, (upd_ne hrd).trans upd_same, OkW.nil _, by simp, fun φ => rfl⟩ (fun i σ H' ⟨_, _, _, _, _, _, _, b, _⟩ => b)
      (fun i k v q T σ H' hkv ⟨z4, z5, z6, z7, ws', es, b1, b2, b3, b4, b5, b6⟩ hT hqk => ?_) (fun σ H' ⟨z4, z5, z6, z7, ws', es, b1, b2, b3, b4, b5, b6⟩ => ?_)
    · subst es
      have hi : i < ws.length := by
        have := (List.getElem?_eq_some_iff.mp hkv).1
        rw [eW_len] at this
        exact this
      unfold eW at hkv
      rw [List.getElem?_map, List.getElem?_eq_getElem hi] at hkv
      obtain ⟨rfl, rfl⟩ := Prod.mk.inj (Option.some.inj hkv)
      have hlen : ws[i].1.length = m := ok.len _ (List.getElem_mem hi)
      have hw : ∀ φ, wsum (one Ev L φ) (ws.take (i + 1)) = wsum (one Ev L φ) (ws.take i) + ws[i].2 * one Ev L φ ws[i].1 := fun φ => by
        rw [List.take_succ_eq_append_getElem hi, wsum_append, wsum_cons, wsum_nil, Int.add_zero]
      rw [kI_V] at hqk
      have hbig : i * Ev.length + Ev.length ≤ ws.length * Ev.length := by
        rw [← Nat.succ_mul]
        exact Nat.mul_le_mul_right _ hi
      generalize ws[i].1 = k at hlen hqk hw
      generalize ws[i].2 = c at hw
      have hqT : q ≠ T := ne_of_none hqk hT
      have sT : Same H' (upd H' T (.tup [V.ref q, V.int c])) := same_new hT
      refine ⟨T, _, rfl, SqT.of upd_same, rfl, _, _, rfl, _, _, rfl, rfl, ?_⟩
      have hed : e ≠ d := ne_of he hd (by intro z; cases z)
      have hld : l ≠ d := ne_of hl hd (by intro z; cases z)
      have m5 : Mut d H (upd H' T (.tup [V.ref q, V.int c])) := fun b o hb h => sT _ _ (b1 b o hb h)
      refine ⟨_, rfl, e, rfl, ⟨_, SqL.of (m5 _ _ hed he)⟩, ?_⟩
      refine for_list (xs := iV Ev) (fun j σ H' => ∃ z6 z7 ws', σ = [some (.ref d), some (.ref e), some (.ref l), some (.ref r), some (.ref q), some (.int c), z6, z7] ∧ Mut d H H' ∧ H' d = some (.frz od (.dT (eW ws))) ∧ H' r = some (.dT (eW ws')) ∧ H' q = some (.tup (iV k)) ∧ OkW (m + 1) ws' ∧ ws'.length ≤ i * Ev.length + j ∧
          ∀ φ, wsum φ ws' = wsum (one Ev L φ) (ws.take i) + c * one (Ev.take j) L φ k)
        ⟨_, _, ws', rfl, m5, sT _ _ b2, sT _ _ b3, sT _ _ hqk, b4, by omega, fun φ => by rw [b6 φ]; unfold one; simp⟩ (fun j σ H' _ ⟨_, _, _, _, b, _⟩ => SqL.of (b _ _ hed he))
        (fun j x σ H5 hx ⟨z6, z7, ws5, es, c1, c2, c3, c4, c5, c6, c7⟩ => ?_) (fun σ H5 ⟨z6, z7, ws5, es, c1, c2, c3, c4, c5, c6, c7⟩ => ?_)
      · subst es
        have hj : j < Ev.length := by
          have := (List.getElem?_eq_some_iff.mp hx).1
          simpa using this
        rw [iat hj] at hx
        obtain rfl := (Option.some.inj hx).symm
        have hsn : ∀ φ, one (Ev.take (j + 1)) L φ k = one (Ev.take j) L φ k + if gi Ev j ∈ k then 0 else if ng (srt (k ++ [gi Ev j])) L = true then φ (srt (k ++ [gi Ev j])) else 0 := fun φ => by
          rw [List.take_succ_eq_append_getElem hj, one_snoc, gi_get hj]
        generalize gi Ev j = e0 at hsn
        refine ⟨_, rfl, _, rfl, q, iV k, rfl, .inr (SqT.of c4), rfl, NwG.flat_ints k, _, rfl, ?_⟩
        rw [if_pos rfl, show iV k = k.map V.int from rfl, NwG.inV_int]
        by_cases hin : e0 ∈ k
        · rw [decide_eq_true hin]
          refine iteF ?_
          refine ⟨_, _, ws5, rfl, c1, c2, c3, c4, c5, by omega, fun φ => ?_⟩
          rw [c7 φ, hsn φ, if_pos hin, Int.add_zero]
        · rw [decide_eq_false hin]
          refine iteT ?_
          have hkl : (k ++ [e0]).length = m + 1 := by rw [List.length_append, hlen]; rfl
          refine ⟨_, rfl, q, iV k, rfl, .inl (SqT.of c4), _, rfl, Nat.le_of_lt (small1000 ?_), fun p1 hp1 => ?_⟩
          · rw [List.length_append, iV_len, hlen]
            show m + 1 ≤ 1000
            omega
          have e1 : iV k ++ [V.int e0] = iV (k ++ [e0]) := by unfold iV; rw [List.map_append]; rfl
          rw [e1]
          have s1 : Same H5 (upd H5 p1 (.lst (iV (k ++ [e0])))) := same_new hp1
          refine ⟨p1, k ++ [e0], rfl, SqL.of upd_same, by omega, fun ns p2 hpm hpw hp2 => ?_⟩
          obtain rfl := srt_of hpm hpw
          have s2 := s1.trans (same_new (o := .lst (iV (srt (k ++ [e0])))) hp2)
          refine ⟨p2, _, rfl, .inl ⟨SqL.of upd_same, fun l3 hl3 => ?_⟩⟩
          have s3 := s2.trans (same_new (o := .tup (iV (srt (k ++ [e0])))) hl3)
          have hsl : (srt (k ++ [e0])).length = m + 1 := by rw [srt_len, hkl]
          refine ⟨_, rfl, _, rfl, l3, l, srt (k ++ [e0]), L, rfl, upd_same, s3 _ _ (c1 _ _ hld hl), by omega, by omega, fun H7 s7 => ?_⟩
          refine ⟨_, rfl, ?_⟩
          have u3 : H7 l3 = some (.tup (iV (srt (k ++ [e0])))) := s7 _ _ upd_same
          have s8 : Same H5 H7 := s3.trans s7
          generalize srt (k ++ [e0]) = kn at hsl u3 hsn
          by_cases hg : ng kn L = true
          · rw [hg]
            refine iteT ?_
            have rk : H7 r = some (.dT (eW ws5)) := s8 _ _ c3
            have eb : H7 l3 = some (.tup ((kI kn).map kV)) := by rw [kI_V]; exact u3
            have hv : (valV (eW ws5) (kI kn)).getD (V.int 0) = V.int ((getW ws5 kn).getD 0) := by
              rw [val_enc]
              cases getW ws5 kn <;> rfl
            refine ⟨_, rfl, r, rfl, .inr ⟨_, .inl rk⟩, _, rfl, _, DGet.t rk eb, ?_⟩
            rw [hv]
            refine ⟨_, rfl, _, _, rfl, rfl, ?_⟩
            refine ⟨_, rfl, _, rfl, r, _, rfl, DPut.t rk eb ?_, ?_⟩
            · rw [eW_len, sizeLine_eq]; omega
            · rw [put_enc c5.nd]
              have hrl : ∀ b o, b ≠ r → H5 b = some o → upd H7 r (.dT (eW (put ws5 kn c))) b = some o := fun b o hb h => (upd_ne hb).trans (s8 _ _ h)
              refine ⟨_, _, put ws5 kn c, rfl, fun b o hb h => hrl b o (fun z => by rw [z, hr0] at h; cases h) (c1 b o hb h), hrl _ _ (Ne.symm hrd) c2, upd_same, hrl _ _ (ne_of c4 c3 (by intro z; cases z)) c4, c5.put (by omega) c, ?_, fun φ => ?_⟩
              · have := put_len ws5 kn c
                omega
              · rw [wsum_put φ c5.nd, c7 φ, hsn φ, if_neg hin, if_pos hg, Int.mul_add]
                omega
          · have hg' : ng kn L = false := by simpa using hg
            rw [hg']
            refine iteF ?_
            refine ⟨_, _, ws5, rfl, fun b o hb h => s8 _ _ (c1 b o hb h), s8 _ _ c2, s8 _ _ c3, s8 _ _ c4, c5, by omega, fun φ => ?_⟩
            rw [c7 φ, hsn φ, if_neg hin, if_neg hg, Int.add_zero]
      · subst es
        rw [iV_len] at c6 c7
        refine ⟨_, _, _, _, ws5, rfl, c1, c2, c3, c5, ?_, fun φ => ?_⟩
        · rw [Nat.succ_mul]; exact c6
        · rw [c7 φ, hw φ, List.take_length]
    · subst es
      rw [eW_len, List.take_length] at b6
      rw [eW_len] at b5
      refine ⟨b2, _, rfl, ?_⟩
      refine hq _ r ws' (fun b o h => ?_) ((upd_ne hrd).trans b3) b4 b5 b6
      by_cases hb : b = d
      · rw [hb] at h ⊢
        rw [hd] at h
        rw [← h]
        exact upd_same
      · exact (upd_ne hb).trans (b1 b o hb h)
end
end Nw
end
section
/-! {k: v}, k a tuple. -/
namespace Nw
open PySem PySem.Spec PyProof.Rows L2 ClX
def tDisT (tk tv : TE) : TE := fun σ H Q => ∀ p, H p = none → tk σ (upd H p (.dT [])) fun x H1 => tv σ H1 fun y H2 => ∃ (b : Addr) (ks : List L2.Key), x = .ref b ∧ H2 b = some (.tup (ks.map kV)) ∧ H2 p = some (.dT []) ∧ Q (.ref p) (upd H2 p (.dT [(ks, y)]))
theorem pe_disT {X : Cx} {k v : Expr} {tk tv : TE} {pos : Pos} (hu : X.A.units + 1 < cLine) (hk : PE X k tk) (hv : PE X v tv) : PE X (.Dict [some k] [v] pos) (tDisT tk tv) := by
  refine ⟨fun pins s σ H Q I q => ?_⟩
  have hn := I.hok.fresh (Nat.le_refl s.heap.objs.size)
  have I1 := I.laid (a := s.heap.objs.size) (o := .dT []) (h' := s.heap.push { cls := .type "dict", data := .dict #[] }) (t' := s.toks) (fun _ _ q => Heap.get?_push_of_some _ q) (Nat.le_refl _) (dt_empty s.heap I.big)
  refine wpAny_Dict_any rfl rfl (by simp) (by show 1 ≤ 15; decide) ?_
  refine pairTrees_cons_walk (thn (hk.run pins _ σ _ _ I1 (q _ hn)) fun u s1 ⟨x, H1, I2, rx, q1⟩ => thn (hv.run pins s1 σ H1 _ I2 q1) fun w2 s2 ⟨y, H2, I3, ry, b, ks, ex, eb, ep, q2⟩ => pairTrees_nil_walk ?_)
  subst ex
  obtain rfl : u = Value.ref b := rx
  obtain ⟨z, hd, xs, rel, dd⟩ := dt_of I3.hok ep
  have hz : xs.length ≤ sizeLine := by rw [← Paired.length rel]; exact z
  unfold storeAll
  rw [List.forIn_cons]
  refine wpAny_bind (wpAny_bind (wpAny_dictSet_heap (hsz := hz) (knd := tupleKind (mixKind X.prog X.w)) (show X.A.units < cLine by omega) (key_of I3.hok eb) dd fun h' dd' hs => wpAny_pure ?_))
  show wpAny _ _ (forIn [] _ _) _ _ _
  rw [List.forIn_nil]
  refine wpAny_pure ?_
  obtain ⟨o, es, ep2, hq, h2, h3, h4, _, h5⟩ := dd'
  refine ⟨.ref s.heap.objs.size, _, ?_, rfl, q2⟩
  refine d_write I3 (by rw [ep]; exact True.intro) hs ⟨o, hq⟩ ⟨by show 1 ≤ sizeLine; decide, hd, _, (rel.put ks eb ry).keeps fun c ys ec => ?_, o, es, ep2, hq, h2, h3, h4, h5⟩
  rw [upd_ne (ne_of ec ep (fun z => nomatch z))]
  exact ec
end Nw
end
section
/-! list(d.values()), d a dict with tuple keys. -/
namespace Nw
open PySem PySem.Spec PyProof.Rows L2 ClX
theorem vals_ix : ∀ {xs : List V} {us : List Value}, xs.length = us.length → (∀ (j : Nat) (x : V) (u : Value), xs[j]? = some x → us[j]? = some u → RelV x u) → Vals xs us
  | [], [], _, _ => .nil
  | [], _ :: _, h, _ => by simp at h
  | _ :: _, [], h, _ => by simp at h
  | x :: xs, u :: us, h, r => .cons (r 0 x u rfl rfl) (vals_ix (by simpa using h) fun j y w h1 h2 => r (j + 1) y w h1 h2)
def tListValsT (te : TE) : TE := fun σ H Q => te σ H fun x H1 => ∃ (d : Addr) (kvs : List (List L2.Key × V)), x = .ref d ∧ H1 d = some (.dT kvs) ∧ ∀ p, H1 p = none → Q (.ref p) (upd H1 p (.lst (kvs.map (·.2))))
theorem pe_listValsT {X : Cx} {e : Expr} {te : TE} {p apos cpos pos : Pos} (hc : X.calm = true) (he : PE X e te) (hg : Gl X "list") (hm : X.mg "list" = none) (hv : bootBuiltins "list" = some (.type "list")) (hbase : attributeBase e "values" X.env (eval e X.env) = eval e X.env := by rfl) (hline : (apos.endLine == cpos.line) = true := by rfl)
    (hs : starEach [.Call (.Attribute e "values" apos) [] [] cpos] X.env = (false, eval (.Call (.Attribute e "values" apos) [] [] cpos) X.env) :: starEach [] X.env := by rfl) :
    PE X (.Call (.Name "list" p) [.Call (.Attribute e "values" apos) [] [] cpos] [] pos) (tListValsT te) := by
  refine ⟨fun pins s σ H Q I hq => ?_⟩
  refine wpAny_Call_Name_kw (ld_blt I hg hm hv ?_)
  refine PyProof.Rows.callWith_type1 ?_ hs rfl
  rw [hs]
  show wpAny _ _ (spliced ((false, eval (.Call (.Attribute e "values" apos) [] [] cpos) X.env) :: backTo pos (starEach [] X.env))) _ _ s
  refine Calls.spliced_cons ?_
  refine wpAny_Call_method (T := "dict") (id := "dict.values") hbase rfl hline F.plainAttrs_dict F.slot_dict_values F.type_dict_values (thn (he.run pins s σ H _ I hq) fun u s1 ⟨x, H1, I1, rx, d, kvs, ex, hd, q⟩ => ?_)
  subst ex
  obtain rfl : u = Value.ref d := rx
  obtain ⟨hz, hs0, xs, rel, o, es, ep, ho, hx, hdt, hes, _, _⟩ := dt_of I1.hok hd
  have raw : s1.heap.DictRaw d es ep := ⟨o, ho, hx, hdt⟩
  have lx : kvs.length = xs.length := Paired.length rel
  have lz : es.size = kvs.length := by
    rw [← Array.length_toList, hes, List.length_map, lx]
  have I2 : L2.Inv X pins σ H1 { s1 with heap := s1.heap.push { cls := .type "dict_values", data := .fields #[.ref d] } } := I1.kept (t' := s1.toks) fun b ob q => Heap.get?_push_of_some _ q
  have I2' := I1.kept (h' := s1.heap.push { cls := .type "dict_values", data := .fields #[.ref d] }) (t' := s1.toks) fun b ob q => Heap.get?_push_of_some _ q
  refine ⟨raw.typeIs, ?_, ?_⟩
  · intro b eb
    cases eb
    exact ⟨o, ho, hx.2.1⟩
  show wpAny _ _ (callWith cpos (.builtin "dict.values") [.ref d] [] []) _ X.xe s1
  refine method_meetsIn F.slot_dict_values F.entry_dict_values rfl (PySem.evalArgs_none ⟨rfl, raw.typeIs, F.args_dict_values_1 _, _, meets_dict_values_raw d hs0, ⟨es, ep, raw⟩, ?_⟩)
  refine Calls.spliced_nil ?_
  refine PySem.W.kdl_call (PySem.KdlSrc.rawValues (d := d) (es := es) (ep := ep)) (I1.ok.hd hc) ⟨⟨_, Heap.get?_push_size _ rfl, rfl, rfl⟩, raw.at fun o q => Heap.get?_push_of_some _ q⟩ (by omega) fun h' tk acc c hk hS hacc => ?_
  have new : ObjOk X.prog X.w (upd H1 (s1.heap.push { cls := .type "dict_values", data := .fields #[.ref d] }).objs.size (.lst (kvs.map (·.2)))) h' (s1.heap.push { cls := .type "dict_values", data := .fields #[.ref d] }).objs.size (.lst (kvs.map (·.2))) := by
    refine ⟨by rw [List.length_map]; exact hz, acc.toList, c, vals_ix ?_ fun j x u h1 h2 => ?_, ?_⟩
    · have a1 : acc.toList.length = acc.size := Array.length_toList
      have a2 := hacc.1
      rw [List.length_map]
      omega
    · rw [List.getElem?_map] at h1
      cases hk2 : kvs[j]? with
      | none => rw [hk2] at h1; cases h1
      | some kv =>
        rw [hk2] at h1
        obtain rfl : kv.2 = x := by simpa using h1
        obtain ⟨y, g1, _, _, g3⟩ := paired_get rel hk2
        obtain ⟨hi, eu⟩ := hacc.2 j u (by rw [← Array.getElem?_toList]; exact h2)
        have e1 : es.toList[j]? = some es[j] := by rw [Array.getElem?_toList]; exact Array.getElem?_eq_getElem hi
        rw [hes, List.getElem?_map, g1] at e1
        have e2 : entryOfKey (tupleKind (mixKind X.prog X.w)) y = es[j] := by simpa using e1
        rw [eu, ← e2]
        exact g3
    · rw [Array.toArray_toList]; exact hS
  have I3 := I2.laid (t' := tk) hk (Nat.le_refl _) new
  exact ⟨.ref _, _, I3, rfl, q _ (I2.hok.fresh (Nat.le_refl _))⟩
end Nw
end
section
/-! Promises: count_sorted. -/
namespace Nw
open PySem PySem.Spec PyProof.Rows L2 ClX
def allL (W : Nat) (st : List Nat) : List (List Int) := (lims W st).map iN ++ [up W]
theorem lims_len (W : Nat) (st : List Nat) : (lims W st).length = W - 1 := by unfold lims; simp
theorem allL_len {W : Nat} (st : List Nat) (h : 1 ≤ W) : (allL W st).length = W := by
  unfold allL
  rw [List.length_append, List.length_map, lims_len, List.length_singleton]; omega
theorem allL_at {W : Nat} {st : List Nat} (ok : OkN W st) {i : Nat} (h : i < (allL W st).length) : ((allL W st)[i]).length = i + 1 := by
  have hW := allL_len st ok.lo
  unfold allL at h hW ⊢
  rcases Nat.lt_or_ge i (W - 1) with c | c
  · rw [List.getElem_append_left (by rw [List.length_map, lims_len]; exact c), List.getElem_map]
    unfold iN lims
    rw [List.length_map, List.getElem_map, List.getElem_range]
    have := plc_length ok.in_ (1 + (i : Int))
    unfold cl at this
    omega
  · rw [List.getElem_append_right (by rw [List.length_map, lims_len]; exact c)]
    have : i = W - 1 := by omega
    simp only [List.getElem_singleton, up_len]
    have := ok.lo
    omega
theorem allL_lo {W : Nat} {st : List Nat} {i : Nat} (hi : i < (allL W st).length) (hl : i < (lims W st).length) : (allL W st)[i] = iN (lims W st)[i] := by
  unfold allL at hi ⊢
  rw [List.getElem_append_left (by rw [List.length_map]; exact hl), List.getElem_map]
theorem allL_hi {W : Nat} {st : List Nat} {i : Nat} (hi : i < (allL W st).length) (h : i = W - 1) : (allL W st)[i] = up W := by
  unfold allL at hi ⊢
  rw [List.getElem_append_right (by rw [List.length_map, lims_len]; omega)]
  simp
theorem wsum_one (ws : Ways) : wsum (fun _ => 1) ws = (ws.map (·.2)).sum := by
  unfold wsum
  congr 1
  refine List.map_congr_left fun p _ => ?_
  rw [Int.mul_one]
section
variable {P : Program} {w : World} {K : PySem.W.Frag} {mg : Str → Option Value} {base : Heap}
def spCount (K : PySem.W.Frag) : Sp := fun vs H Q _ => ∃ (a : Addr) (W : Nat) (st : List Nat), vs = [.ref a] ∧ Net K H a W st ∧ OkN W st ∧ W ≤ 6 ∧ ∀ H', Same H H' → Q (.int (count W st)) H'
theorem ok_count_sorted (t : Tx K mg base) : Okd P w K mg base 8 d_count_sorted ["network"] (spCount K) := by
  have S : FnScope ["network", "everywhere", "ways", "limit"] ["network"] d_count_sorted.scope := ⟨rfl, rfl, rfl, by decide +kernel, rfl, by decide +kernel, by decide +kernel⟩
  have G1 : Okd P w K mg base 7 d_check_width_counting ["network", "most"] (spChkC K) := okd_mono (ok_check_width_counting t) (by decide)
  have G2 : Okd P w K mg base 7 d_limits ["network"] (spLim K) := ok_limits t
  have G3 : Okd P w K mg base 7 d_extended_ways ["ways", "everywhere", "limit"] spExt := okd_mono (ok_extended_ways t) (by decide)
  obtain ⟨tk, hmc⟩ := He.int_ok t.kin t.ns (t.c.fact 59 (f := .int "MAX_COUNT_WIDTH" 10) rfl)
  refine okd_of t 33 rfl S rfl rfl (fun _ _ _ _ _ _ us hl => match us, hl with | [_], _ => rfl) (fun vs H Q E h => ?_) fun cdv A outer s H vs Q E hr h => ?_
  · obtain ⟨_, _, _, rfl, _⟩ := h
    rfl
  · obtain ⟨a, W, st, rfl, n, ok, hW, hq⟩ := h
    obtain ⟨dx, tp, n1, n2⟩ := id n
    refine ⟨_, pss_cons (ps_expr (pe_cl G1 hr (by rfl) (t.g 25) (pa_cons (pv 0) (pa_cons (pe_glob (v := .int 10) (by rfl) hmc ⟨_, rfl⟩) pa_nil))))
      (pss_cons (ps_set (i := 1) S.nd rfl (Or.inl rfl) (pe_listRg (by rfl) (by rfl) t.list (prg_2 (by rfl) t.range pe_int (pe_op op_add (pe_width t (pv 0) (Room.mono (k := 7) hr (by decide))) pe_int))))
      (pss_cons (ps_set (i := 2) S.nd rfl (Or.inl rfl) (pe_disT (hu_of hr) (pe_tup pa_nil) pe_int))
      (pss_cons (ps_for PassesOwn.leaving rfl (pi_list (pe_lst (StX.pa_star (pe_cl G2 hr (by rfl) (t.g 24) (pa_cons (pv 0) pa_nil)) (pa_cons (pv 1) pa_nil)))) (pg_name (i := 3) S.nd rfl (Or.inl rfl))
        (pss_one (ps_set (i := 2) S.nd rfl (Or.inl rfl) (pe_cl G3 hr (by rfl) (t.g 27) (pa_cons (pv 2) (pa_cons (pv 1) (pa_cons (pv 3) pa_nil)))))))
      (pss_one (ps_ret (pe_callB (cr_sum rfl) (by rfl) t.sum (by decide +kernel) (pa_cons (pe_listValsT rfl (pv 2) (by rfl) t.list boot_list) pa_nil))))))), ?_⟩
    refine ⟨_, rfl, a, W, st, 10, rfl, n, by omega, ?_⟩
    refine ⟨_, rfl, net_w n1 ⟨_, _, rfl, rfl, 1, _, rfl, rfl, ?_, fun q hq' => ?_⟩⟩
    · have := ok.hi
      exact ⟨by omega, by omega, by omega, by omega, by omega⟩
    rw [rg_up]
    have s1 : Same H (upd H q (.lst (iV (up W)))) := same_new hq'
    intro p hp
    refine ⟨(by show 0 ≤ sizeLine; decide), fun b hb => ?_⟩
    have hbp : b ≠ p := fun z => by rw [z, upd_same] at hb; cases hb
    refine ⟨b, [], rfl, upd_same, (upd_ne (Ne.symm hbp)).trans upd_same, ?_⟩
    have sD : Same H (upd (upd (upd (upd H q (.lst (iV (up W)))) p (.dT [])) b (.tup [])) p (.dT [([], .int 1)])) := fun x o h => by
      have h1 := s1 x o h
      have xp : x ≠ p := ne_of_none h1 hp
      have xb : x ≠ b := ne_of_none ((upd_ne xp).trans h1) hb
      exact (upd_ne xp).trans ((upd_ne xb).trans ((upd_ne xp).trans h1))
    have hqp : q ≠ p := fun z => by rw [← z, upd_same] at hp; cases hp
    have hqb : q ≠ b := ne_of_none ((upd_ne hqp).trans upd_same) hb
    have dq : upd (upd (upd (upd H q (.lst (iV (up W)))) p (.dT [])) b (.tup [])) p (.dT [([], .int 1)]) q = some (.lst (iV (up W))) := (upd_ne hqp).trans ((upd_ne hqb).trans ((upd_ne hqp).trans upd_same))
    have dp : upd (upd (upd (upd H q (.lst (iV (up W)))) p (.dT [])) b (.tup [])) p (.dT [([], .int 1)]) p = some (.dT (eW [([], 1)])) := upd_same
    generalize upd (upd (upd (upd H q (.lst (iV (up W)))) p (.dT [])) b (.tup [])) p (.dT [([], .int 1)]) = HD at sD dq dp
    refine ⟨_, rfl, a, W, st, rfl, n.same sD, ok, fun H2 pl s2 hL => ?_⟩
    obtain ⟨as, p1, p2, p3⟩ := hL
    have hn : as.length = W - 1 := by rw [p2, lims_len]
    have hW40 := ok.hi
    have hW1 := ok.lo
    refine ⟨pl, as.map V.ref, rfl, .inr (SqL.of p1), _, rfl, Nat.le_of_lt (small1000 ?_), fun z hz => ?_⟩
    · rw [List.length_append, List.length_map, hn]
      show W - 1 + 1 ≤ 1000
      omega
    have s3 : Same H2 (upd H2 z (.lst (as.map V.ref ++ [V.ref q]))) := same_new hz
    refine ⟨z, rfl, ⟨_, SqL.of upd_same⟩, ?_⟩
    have item : ∀ (i : Nat) (x : V), (as.map V.ref ++ [V.ref q])[i]? = some x → ∃ (c : Addr) (hi : i < (allL W st).length), x = .ref c ∧ H2 c = some (.lst (iV (allL W st)[i])) := fun i x hx => by
      have hlt := (List.getElem?_eq_some_iff.mp hx).1
      rw [List.length_append, List.length_map, List.length_singleton, hn] at hlt
      have hi : i < (allL W st).length := by rw [allL_len st hW1]; omega
      rcases Nat.lt_or_ge i (W - 1) with c | c
      · have hia : i < as.length := by omega
        rw [List.getElem?_append_left (by rw [List.length_map]; exact hia), List.getElem?_map, List.getElem?_eq_getElem hia] at hx
        have hil : i < (lims W st).length := by rw [lims_len]; exact c
        refine ⟨as[i], hi, (Option.some.inj hx).symm, ?_⟩
        rw [p3 i as[i] _ (List.getElem?_eq_getElem hia) (List.getElem?_eq_getElem hil), nV_iV, allL_lo hi hil]
        rfl
      · have ei : i = W - 1 := by omega
        rw [List.getElem?_append_right (by rw [List.length_map, hn]; omega), List.length_map, hn, ei, Nat.sub_self] at hx
        refine ⟨q, hi, (Option.some.inj hx).symm, ?_⟩
        rw [s2 _ _ dq, allL_hi hi ei]
    have hzl : (as.map V.ref ++ [V.ref q]).length = W := by
      rw [List.length_append, List.length_map, hn, List.length_singleton]; omega
    refine for_list (xs := as.map V.ref ++ [V.ref q]) (fun i σ H' => ∃ d v ws, σ = [some (.ref a), some (.ref q), some (.ref d), v] ∧ Same (upd H2 z (.lst (as.map V.ref ++ [V.ref q]))) H' ∧ H' d = some (.dT (eW ws)) ∧ OkW i ws ∧ ws.length ≤ W ^ i ∧ wsum (paths (up W) ((allL W st).drop i)) ws = count W st)
      ⟨p, _, [([], 1)], rfl, Same.refl _, s3 _ _ (s2 _ _ dp), ⟨by simp, fun p hp => by rw [List.mem_singleton.mp hp]; rfl⟩, by simp, by rw [wsum_cons, wsum_nil]; unfold count allL; rw [List.drop_zero]; simp⟩
      (fun i σ H' _ ⟨_, _, _, _, b, _⟩ => SqL.of (b _ _ upd_same)) (fun i x σ H' hx ⟨d, v, ws, es, b1, b2, b3, b4, b5⟩ => ?_) (fun σ H' ⟨d, v, ws, es, b1, b2, b3, b4, b5⟩ => ?_)
    · subst es
      obtain ⟨c, hi, rfl, hc⟩ := item i x hx
      have hi2 := hi
      rw [allL_len st hW1] at hi2
      have hpow : W ^ (i + 1) ≤ 6 ^ 6 := Nat.le_trans (Nat.pow_le_pow_left hW _) (Nat.pow_le_pow_right (by decide) (by omega))
      have hmul : ws.length * W ≤ W ^ (i + 1) := by rw [Nat.pow_succ]; exact Nat.mul_le_mul_right _ b4
      have h66 : 6 ^ 6 < 100000 := by decide
      refine ⟨_, rfl, _, rfl, _, rfl, d, q, c, ws, up W, (allL W st)[i], i, rfl, b2, b1 _ _ (s3 _ _ (s2 _ _ dq)), b1 _ _ (s3 _ _ hc), b3, allL_at ok hi, by omega, by rw [up_len]; omega, fun H5 r ws' s5 hr5 ok5 l5 w5 => ?_⟩
      refine ⟨r, _, ws', rfl, b1.trans s5, hr5, ok5, ?_, ?_⟩
      · rw [up_len] at l5; omega
      · rw [w5, ← b5, List.drop_eq_getElem_cons hi]
        rfl
    · subst es
      rw [hzl] at b5
      have hd0 : (allL W st).drop W = [] := List.drop_eq_nil_of_le (by rw [allL_len st hW1]; exact Nat.le_refl _)
      rw [hd0] at b5
      have e1 : wsum (paths (up W) []) ws = (ws.map (·.2)).sum := wsum_one ws
      rw [e1] at b5
      refine ⟨_, rfl, d, _, rfl, b2, fun u hu => ?_⟩
      have e2 : (eW ws).map (·.2) = (ws.map (·.2)).map V.int := by unfold eW; rw [List.map_map, List.map_map]; rfl
      refine ⟨u, ws.map (·.2), rfl, SqL.of (by rw [e2]; exact upd_same), ?_⟩
      rw [b5]
      exact hq _ (sD.trans (s2.trans (s3.trans (b1.trans (same_new hu)))))
end
end Nw
end
section
/-! The texts of the two generator defs. -/
namespace NwG
open PySem PySem.Spec PyProof.Rows L2 NwB NwM NdefX LamX StX Nw
def pA (i : Nat) : Pos := [(⟨206, 11, 206, 14⟩ : Pos), ⟨206, 15, 206, 24⟩, ⟨206, 11, 206, 25⟩, ⟨206, 29, 206, 34⟩, ⟨206, 11, 206, 34⟩, ⟨207, 18, 207, 22⟩, ⟨207, 23, 207, 32⟩, ⟨207, 18, 207, 33⟩, ⟨207, 12, 207, 33⟩, ⟨207, 12, 207, 33⟩,
  ⟨209, 16, 209, 22⟩, ⟨209, 26, 209, 31⟩, ⟨209, 32, 209, 33⟩, ⟨209, 35, 209, 40⟩, ⟨209, 43, 209, 44⟩, ⟨209, 35, 209, 44⟩, ⟨209, 26, 209, 45⟩, ⟨210, 19, 210, 25⟩, ⟨210, 33, 210, 42⟩, ⟨210, 19, 210, 42⟩,
  ⟨211, 31, 211, 39⟩, ⟨211, 42, 211, 51⟩, ⟨211, 41, 211, 51⟩, ⟨211, 53, 211, 59⟩, ⟨211, 40, 211, 60⟩, ⟨211, 31, 211, 61⟩, ⟨211, 20, 211, 61⟩, ⟨211, 20, 211, 61⟩, ⟨210, 16, 211, 61⟩, ⟨209, 12, 211, 61⟩,
  ⟨206, 8, 211, 61⟩, ⟨205, 4, 211, 61⟩, ⟨212, 15, 212, 23⟩, ⟨212, 24, 212, 26⟩, ⟨212, 15, 212, 27⟩, ⟨212, 4, 212, 27⟩, ⟨212, 4, 212, 27⟩, ⟨205, 17, 205, 26⟩].getD i default
theorem arr_body : d_arrangements.body = bArr pA := rfl
theorem arr_scope : d_arrangements.scope = scArr := rfl
def scSor : Scope := { kind := .function, names := [("network", .local), ("short", .local), ("values", .local), ("check_width_counting", .globalImplicit), ("MAX_LIST_WIDTH", .globalImplicit), ("reduced", .globalImplicit), ("arrangements", .globalImplicit), ("sorts", .globalImplicit)], isGenerator := true, isCoroutine := false, more := [] }
def bChk (p : Nat → Pos) : Stmt := .Expr (.Call (.Name "check_width_counting" (p 0)) [.Name "network" (p 1), .Name "MAX_LIST_WIDTH" (p 2)] [] (p 3)) (p 4)
def bSho (p : Nat → Pos) : Stmt := .Assign [.Name "short" (p 5)] (.Call (.Name "reduced" (p 6)) [.Name "network" (p 7)] [] (p 8)) (p 9)
def bCal (p : Nat → Pos) : Expr := .Call (.Name "arrangements" (p 11)) [.Attribute (.Name "network" (p 12)) "width" (p 13)] [] (p 14)
def bTes (p : Nat → Pos) : Expr := .Call (.Name "sorts" (p 15)) [.Name "short" (p 16), .Name "values" (p 17)] [] (p 18)
def bBod (p : Nat → Pos) : List Stmt := [.If (bTes p) [.Expr (.Yield (some (.Name "values" (p 19))) (p 20)) (p 21)] [] (p 22)]
def bSor (p : Nat → Pos) : List Stmt := [bChk p, bSho p, .For (.Name "values" (p 10)) (bCal p) (bBod p) [] (p 23)]
def pS (i : Nat) : Pos := [(⟨214, 4, 214, 24⟩ : Pos), ⟨214, 25, 214, 32⟩, ⟨214, 34, 214, 48⟩, ⟨214, 4, 214, 49⟩, ⟨214, 4, 214, 49⟩, ⟨215, 4, 215, 9⟩, ⟨215, 12, 215, 19⟩, ⟨215, 20, 215, 27⟩, ⟨215, 12, 215, 28⟩, ⟨215, 4, 215, 28⟩,
  ⟨216, 8, 216, 14⟩, ⟨216, 18, 216, 30⟩, ⟨216, 31, 216, 38⟩, ⟨216, 31, 216, 44⟩, ⟨216, 18, 216, 45⟩, ⟨217, 11, 217, 16⟩, ⟨217, 17, 217, 22⟩, ⟨217, 24, 217, 30⟩, ⟨217, 11, 217, 31⟩,
  ⟨218, 18, 218, 24⟩, ⟨218, 12, 218, 24⟩, ⟨218, 12, 218, 24⟩, ⟨217, 8, 218, 24⟩, ⟨216, 4, 218, 24⟩].getD i default
theorem sor_body : d_sorted_arrangements.body = bSor pS := rfl
theorem sor_scope : d_sorted_arrangements.scope = scSor := rfl
end NwG
end
section
/-! sorted_arrangements: its frame; the making of what it goes through; next of a generator in a loop. -/
namespace NwG
open PySem PySem.Spec PyProof.Rows L2 NwB NwM NdefX LamX StX Nw
abbrev nS : List PySem.Str := ["network", "short", "values"]
theorem scS : GScope nS ["network"] scSor := ⟨rfl, rfl, rfl, by decide, rfl, by decide, by decide⟩
theorem cellsS (n : Nat) : cellsFrom (n + 1) scSor.names [] = [] := rfl
abbrev envS (f3 n : Addr) (cd : Value) : Env := envOfC "sorted_arrangements" scSor n f3 cd
def xS (P : Program) (w : World) (K : PySem.W.Frag) (mg : PySem.Str → Option Value) (base : Heap) (f3 : Addr) (cd : Value) (s0 : Shared) (A : Around) (outer : List Env) (n : Addr) : Cx where
  prog := P
  w := w
  K := K
  mg := mg
  base := base
  A := A.deeper (envS f3 n cd)
  N := nS
  s_0 := s0
  H_0 := fun _ => none
  env := envS f3 n cd
  outer := outer
  stack := envS f3 n cd :: outer
  ex := []
  fn := fun _ => false
  calm := true
  pn := []
  xe := fun _ _ => False
/-- what holds throughout -/
structure SoS (P : Program) (w : World) (K : PySem.W.Frag) (mg : PySem.Str → Option Value) (base : Heap) (cA Pt : Addr) (W : Nat) (st : List Nat) : Prop where
  tx : Tx K mg base
  mod : Mod K mg base
  tb : TabB base mg cA Pt
  ok : OkN W st
  W6 : W ≤ 6
  cd : (He.cT K defA).1 = cA
section
variable {P : Program} {w : World} {K : PySem.W.Frag} {mg : PySem.Str → Option Value} {base : Heap} {cA Pt f3 : Addr} {W : Nat} {st : List Nat} {s0 : Shared} {A : Around} {outer : List Env} {n : Addr} {p : Nat → Pos} {cd : Value}
theorem lookS {y : PySem.Str} {c : Addr} (e : (envS f3 n cd).cells.lookup y = some c) : False := by
  have e : (cellsFrom (n + 1) scSor.names []).lookup y = some c := e
  rw [cellsS] at e
  cases e
theorem sta_S (x : SoS P w K mg base cA Pt W st) (hd : A.handled = none) (hf : A.frames = some outer) (hb : base.objs.size ≤ n) (hl : ∀ b ∈ frs outer, b < n) : Sta (xS P w K mg base f3 cd s0 A outer n) A where
  mod := x.mod
  kind := rfl
  glob := rfl
  blt := rfl
  inj := fun y z c h1 h2 => (lookS h1).elim
  has := fun y hy => by
    have hy : scSor.names.lookup y = some .cell ∨ scSor.names.lookup y = some .free := hy
    rcases hy with hy | hy
    · have := PySem.mem_of_lookup hy
      simp [scSor] at this
    · have := PySem.mem_of_lookup hy
      simp [scSor] at this
  cab := fun y c _ h => (lookS h).elim
  hd := hd
  dep := rfl
  stk := rfl
  fr := rfl
  exn := rfl
  pnn := rfl
  frames := hf
  bsz := hb
  low := hl
  xe := fun _ _ z => z
abbrev yS (P : Program) (w : World) (K : PySem.W.Frag) (mg : PySem.Str → Option Value) (base : Heap) (f3 : Addr) (cd : Value) (s0 : Shared) (A : Around) (outer : List Env) (n : Addr) (sw : Shared) (Hc : Hp) : Cx := Cxat (xS P w K mg base f3 cd s0 A outer n) sw Hc
/-- the def arrangements -/
theorem arr_def (x : SoS P w K mg base cA Pt W st) : ∃ fd, FunD K "arrangements" "arrangements" d_arrangements.params (bArr pA) scArr [] [] (He.ga K "arrangements") fd ∧ fd.code = .ref cA ∧ ∀ (s : Shared) (u : Value), BindsTo s fd ⟨[u], []⟩ (([("width" : PySem.Str)]).zip [u]) := by
  obtain ⟨fd, F⟩ := x.tx.c.def_ 34 (d := d_arrangements) rfl
  have F2 : FunD K "arrangements" "arrangements" d_arrangements.params (bArr pA) scArr [] [] (He.ga K "arrangements") fd := F
  refine ⟨fd, F2, ?_, fun s u => F2.bindsA (ps := [("width" : PySem.Str)]) (fun kV doc pm an cdv ct us hl => match us, hl with | [_], _ => rfl) s [u] rfl⟩
  obtain ⟨oc, od, dV, kV, doc, pm, an, cdv, ct, osl, rfl, lk, hcd, _, _⟩ := F2.ex
  obtain ⟨c, rfl⟩ := He.codeIn_ref hcd
  have e : He.codeOf K defA = c := He.codeOf_eq (p := defA) lk rfl
  have e2 : (He.cT K defA).1 = c := e
  show Value.ref c = .ref cA
  rw [← e2, x.cd]
/-- arrangements(network.width): a generator that has not begun -/
theorem sor_make {gf : Nat → Prop} {pins : List (Addr × Obj)} {H Hc : Hp} {s sw W0 : Shared} {a0 : Addr} {v1 v2 : Option V} (x : SoS P w K mg base cA Pt W st) (I : IG (yS P w K mg base f3 cd s0 A outer n sw Hc) W0 gf [] pins [some (.ref a0), v1, v2] H s)
    (hn : Net K H a0 W st) (hr : Room 2 (A.deeper (envS f3 n cd))) :
    wpG (model P w) (A.deeper (envS f3 n cd)) (eval (bCal p) (envS f3 n cd)) (fun u r => ∃ (n' a : Addr) (g' : Nat) (oa : Obj) (s1 : Shared), u = .ref a ∧ H a = none ∧ s.heap.objs.size ≤ n' ∧ (∀ b ∈ lA n', n' ≤ b ∧ H b = none ∧ b ≠ a ∧ ∃ o, s1.heap.get? b = some o) ∧ r.heap.IsGen a g' ∧ GObj oa g' ∧ mark oa = 0 ∧
      (∃ (X0 : Cx) (H0 : Hp), X0.N = nA ∧ X0.env = envA (He.ga K "arrangements") n' (.ref cA) ∧ Inv X0 [] [some (.int W), none] H0 s1) ∧
      CG (yS P w K mg base f3 cd s0 A outer n sw Hc) W0 gf g' (.fresh (.func (bArr pA) (envA (He.ga K "arrangements") n' (.ref cA)))) [] pins [some (.ref a0), v1, v2] (upd (tell (lA n') s1.heap H) a (XO a oa)) r) Emp s := by
  obtain ⟨fd, F, hcd, hbd⟩ := arr_def x
  obtain ⟨dx, tp, n1, n2⟩ := hn
  refine wpG_mono (emb2 (Q := fun u s' => ∃ (s2 : Shared) (a : Addr) (g' : Nat) (oa : Obj) (s1 : Shared), u = .ref a ∧ s.heap.objs.size ≤ s2.heap.objs.size ∧ s.gens.size ≤ s2.gens.size ∧ HOk P w H s2.heap ∧
      GMd (yS P w K mg base f3 cd s0 A outer n sw Hc) pins [some (.ref a0), v1, v2] H s2 nA "arrangements" scArr (bArr pA) (He.ga K "arrangements") (.ref cA) [.int (W : Nat)] a g' oa s1 s') (fun T hT hTs => ?_) (fun a s' ⟨_, _, _, _, _, _, _, _, _, m⟩ => m.inv.bare)) (fun u r hu => ?_) fun _ _ z => z
  · have I1 := inv_bare I.inv hT
    have ha : PA (yS P w K mg base f3 cd s0 A outer n sw Hc) [.Attribute (.Name "network" (p 12)) "width" (p 13)] _ := pa_cons (pe_width x.tx (pv 0) hr) pa_nil
    refine wpAny_Call_Name_kw (ld_glob I1 (by rfl) (x.tx.g 29 : mg "arrangements" = some (.ref (He.ga K "arrangements"))) ?_)
    refine PySem.W.callWith_K (h₀ := base) I1.ok.mod.kin F.kp (thn (grows (ha.run (p 14) pins _ _ H (fun vs H' => vs = [.int (W : Nat)] ∧ H' = H) I1 ⟨_, rfl, net_w n1 ⟨rfl, rfl⟩⟩)) fun us s2 hus => ?_) (by rfl) (by rfl)
    obtain ⟨y1, y2, vs, H1, J, r1, e1, e2⟩ := hus
    subst e1 e2
    refine ⟨J.kIn, ?_⟩
    cases r1 with
    | cons ru rr =>
      cases rr
      rename_i uu
      refine thn (gen_call F scA (hbd s2 uu) (.cons ru .nil) rfl J hr.depth hr.hd cellsA_at) fun u s' hu => ?_
      obtain ⟨cd', a, g, oa, s1, ec, eu, m⟩ := hu
      rw [hcd] at ec
      subst ec
      exact ⟨s2, a, g, oa, s1, eu, y1, by rw [← hTs]; exact y2, J.hok, m⟩
  · obtain ⟨T, ⟨s2, a, g', oa, s1, rfl, h1, h2, hok, m⟩, g, hsz, hT, hfr⟩ := hu
    refine ⟨s2.heap.objs.size, a, g', oa, s1, rfl, hok.fresh (Nat.le_of_lt m.ale), h1, fun b hb => ?_, m.is_, m.obj, m.mz, ⟨_, _, rfl, rfl, m.st⟩, ⟨inv_bare m.inv AllBare.empty, (I.gt.quiet g).imp fun i hi => by obtain ⟨_, z, _⟩ := hi; simp at z, hfr _ _ m.at_, fun _ z => by simp at z, fun _ z => by simp at z, .inr ?_, fun _ z => by simp at z, Nat.le_trans I.hsz hsz⟩⟩
    · obtain ⟨b1, o, b2, _⟩ := m.objs b hb
      exact ⟨b1, hok.fresh b1, m.ne b hb, o, b2⟩
    · exact Nat.le_trans I.gt.size (Nat.le_trans h2 m.gle)
end
/-- next of a generator, in a loop -/
theorem wpG_pyNext_gen {P : Program} {w : World} {A : Around} {E : Value → Shared → Prop} {s : Shared} {a : Addr} {g : Nat} {gs : GenState} {Y : Value → GenState → Shared → Prop} {R : Shared → Prop} {Q : Option Value → Shared → Prop} (hh : A.handled = none) (hl : s.heap.NoLimit) (hroom : A.depth < recursionLimit) (hg : GenAt s.heap a g) (hgs : s.gens[g]? = some gs)
    (hgo : GoOn (model P w) A.in1 g Y R gs (s.setGen g .running)) (hY : ∀ v gs' s', Y v gs' s' → Q (some v) (s'.setGen g gs'))
    (hR : ∀ s', R s' → ∀ h', (∀ b o, s'.heap.get? b = some o → h'.get? b = some o) → s'.heap.objs.size ≤ h'.objs.size → Q none { s'.setGen g .finished with heap := h' }) : wpG (model P w) A (pyNext (.ref a)) Q E s := by
  unfold pyNext
  refine wpG_bind (wpG_attempt (wpG_special_next hh hl hroom hg hgs hgo (fun v gs' s' hy => wpG_pure (hY v gs' s' hy)) fun s' hr e h' k sz stx => ?_))
  obtain ⟨ea, oe, vs, rfl, hoa, hcls, _, _⟩ := stx
  dsimp only
  refine wpG_bind (wpG_of (wpAny_isInstance (T := "StopIteration") (b := true) ⟨oe, hoa, hcls⟩ isSubtype_stop ?_))
  exact wpG_pure (hR s' hr h' k sz)
end NwG
end
section
/-! sorted_arrangements: its loop. -/
namespace NwG
open PySem PySem.Spec PyProof.Rows L2 NwB NwM NdefX LamX StX Nw
abbrev flS (p : Nat → Pos) (a f3 n : Addr) (cd : Value) : Code := .forLoop (.Name "values" (p 10)) (.ref a) (bBod p) [] (envS f3 n cd)
abbrev rs (W : Nat) (st : List Nat) : List Nat := red st (desc W)
def okb (W : Nat) (st : List Nat) (z : List Int) : Bool := asc (res (rs W st) z)
abbrev insS (K : PySem.W.Frag) (W : Nat) (dx tp : Addr) : HO := .ins (He.ga K "Network") dx [("own_width", .int (W : Nat)), ("own_steps", .ref tp)]
def shS (K : PySem.W.Frag) (Pt a0 : Addr) (W : Nat) (st : List Nat) : Heap → Hp → Prop := fun _ H => TabsN (tA Pt) H ∧ Net K H a0 W st
abbrev dfS (W : Nat) (st : List Nat) (tp : Addr) : Cds := fun c o => c = tp ∧ o = .tup (nV (rs W st))
section
variable {P : Program} {w : World} {K : PySem.W.Frag} {mg : PySem.Str → Option Value} {base : Heap} {cA Pt f3 : Addr} {W : Nat} {st : List Nat} {s0 : Shared} {A : Around} {outer : List Env} {n : Addr} {p : Nat → Pos} {cd : Value}
/-- what sorted_arrangements goes through -/
abbrev fG (P : Program) (w : World) (K : PySem.W.Frag) (mg : PySem.Str → Option Value) (base : Heap) (Pt f3 : Addr) (cd : Value) (A : Around) (outer : List Env) (n n' : Addr) (gn : Nat) : Gp := ⟨P, w, K, mg, base, (A.deeper (envS f3 n cd)).in1, envS f3 n cd :: outer, n', gn, shA Pt, tA Pt⟩
theorem sor_loop (x : SoS P w K mg base cA Pt W st) {g gn : Nat} {a0 a b dx tp n' : Addr} (hr : Room 6 (A.deeper (envS f3 n cd))) (hd : A.handled = none) (hf : A.frames = some outer) (hb0 : base.objs.size ≤ n) (hlo : ∀ b ∈ frs outer, b < n) (hnn : n < n') {k : Result → Sem PySem.Fin} {l : List Value} {p' : Pos} (hk : k (.ok .next) = leafOf (.ok (.ret .none))) :
    ∀ (zs : List (List Int)) (D : Cds) (sw : Shared) (Hc : Hp) (O : Own) (gf : Sub) (H : Hp) (s : Shared) (gs : GenState) (gi : Sub) (Oi : Own) (oa : Obj) (v : Option V), (∀ z ∈ zs, z.length = W) → shS K Pt a0 W st sw.heap Hc → CG (yS P w K mg base f3 cd s0 A outer n sw Hc) sw (At gf) gn gs gi [] [some (.ref a0), some (.ref b), v] H s →
      Fr (xS P w K mg base f3 cd s0 A outer n) (tA Pt) [] (dfS W st tp) [n] [(b, insS K W dx tp)] Hc O H s → Held H a oa gn Oi → mark oa ≤ 0 → (∀ q ∈ (a, XO a oa) :: Oi, Mem O Hc q.1) → (b ≠ a ∧ ∀ r ∈ Oi, r.1 ≠ b) → (∀ c o, D c o → H c = some o) → Sleep (fG P w K mg base Pt f3 cd A outer n n' gn) (toV zs) D Oi gi gs →
      GenG (model P w) A g (SY (Cxgp (xS P w K mg base f3 cd s0 A outer n) A g (shS K Pt a0 W st) (tA Pt)) (toV (zs.filter (okb W st))) O gf sw Hc) (SR (Cxgp (xS P w K mg base f3 cd s0 A outer n) A g (shS K Pt a0 W st) (tA Pt)) (toV (zs.filter (okb W st))) O gf sw Hc)
        (flS p a f3 n cd) ((model P w).den (flS p a f3 n cd)) [.ret k none false l (.func (bSor p) (envS f3 n cd)) p' []] s := by
  have S : Sta (xS P w K mg base f3 cd s0 A outer n) A := sta_S x hd hf hb0 hlo
  have hov : A.over (flS p a f3 n cd) [.ret k none false l (.func (bSor p) (envS f3 n cd)) p' []] = A.deeper (envS f3 n cd) := (GenW.over_loop rfl rfl).trans GenW.over_func
  have geo : ∀ (sw : Shared) (Hc : Hp), Geo (yS P w K mg base f3 cd s0 A outer n sw Hc) (fG P w K mg base Pt f3 cd A outer n n' gn) [] := fun sw Hc =>
    ⟨rfl, rfl, rfl, rfl, rfl, rfl, Around.frames_deeper hf, rfl, hnn, fun y c e => (lookS e).elim, fun q hq => by have : q ∈ ([] : List (Addr × Obj)) ++ [] := hq; simp at this⟩
  have hlow : ∀ b ∈ [n], b < n' := fun b hb => by rw [List.mem_singleton.mp hb]; exact hnn
  have Gs : Okd P w K mg base 6 d_sorts ["network", "values"] (spSorts K) := okd_mono (ok_sorts x.tx) (by decide)
  intro zs
  induction zs with
  | nil =>
    intro Dc sw Hc O gf H s gs gi Oi oa v hz hsh C F D hm hmem hdis hcd hsl
    have ga : GenAt s.heap a gn := D.gob.at_ (xo_get C.inv.hok D.obj) hm
    have pre : Pre (fG P w K mg base Pt f3 cd A outer n n' gn) Dc Oi gi (s.setGen gn .running) H := cg_pre (geo sw Hc) C (F.kp.tab hsh.1) D.own D.kind hcd
    refine gg_forTurn ?_
    rw [hov]
    refine wpG_pyNext_gen hr.hd C.inv.nolimit hr.depth ga C.at_ (hsl _ _ pre) (fun v gs' s' z => z.elim) fun s' hr' h' kk sz => ?_
    obtain ⟨H', af⟩ := hr'
    have C' := aft_CG (gs' := .finished) (geo sw Hc) C pre af
    have I' := ig_kept (h' := h') C'.fin kk sz
    have F' := fr_kept (s := s') (h' := h') (fr_aft F (sr := s.setGen gn .running) rfl rfl af hlow (fun q hq => hmem q (List.mem_cons_of_mem _ hq)) fun q hq r hr2 => by rw [List.mem_singleton.mp hq]; exact hdis.2 r hr2) kk
    refine gg_leaf (.ok .next) ?_
    rw [hk]
    refine gg_end ?_
    exact sr_end S I' F'.kp
  | cons z zs ih =>
    intro Dc sw Hc O gf H s gs gi Oi oa v hz hsh C F D hm hmem hdis hcd hsl
    have hzs : ∀ z ∈ zs, z.length = W := fun y hy => hz y (List.mem_cons_of_mem _ hy)
    have hzl : z.length = W := hz z List.mem_cons_self
    have ga : GenAt s.heap a gn := D.gob.at_ (xo_get C.inv.hok D.obj) hm
    have pre : Pre (fG P w K mg base Pt f3 cd A outer n n' gn) Dc Oi gi (s.setGen gn .running) H := cg_pre (geo sw Hc) C (F.kp.tab hsh.1) D.own D.kind hcd
    refine gg_forTurn ?_
    rw [hov]
    refine wpG_pyNext_gen hr.hd C.inv.nolimit hr.depth ga C.at_ (hsl _ _ pre) (fun v gs' s' hy => ?_) fun s' hr' => hr'.elim
    obtain ⟨pv_, H', O', gf', rfl, hbg, hp, hps, hpO, af, hsl'⟩ := hy
    have hp : H' pv_ = some (.lst (iV z)) := hp
    have C' := aft_CG (gs' := gs') (geo sw Hc) C pre af
    have F' := fr_aft F (sr := s.setGen gn .running) rfl rfl af hlow (fun q hq => hmem q (List.mem_cons_of_mem _ hq)) fun q hq r hr2 => by rw [List.mem_singleton.mp hq]; exact hdis.2 r hr2
    have ea : H' a = some (XO a oa) := af.kp.ext a _ (.inr fun _ z => nomatch z) D.obj fun q hq => D.ne q hq
    have hbH := (F.htr _ List.mem_cons_self).2.1
    have mems : ∀ c, Mem Oi H c → c ≠ a ∧ Mem O Hc c ∧ c ≠ b := fun c hc => by
      rcases hc with ⟨r, r1, r2⟩ | r
      · exact ⟨by rw [← r2]; exact D.ne r r1, by rw [← r2]; exact hmem r (List.mem_cons_of_mem _ r1), by rw [← r2]; exact hdis.2 r r1⟩
      · refine ⟨fun e => ?_, F.kp.mem r, fun e => ?_⟩
        · rw [e, D.obj] at r; cases r
        · rw [e, hbH] at r; cases r
    have hpa : pv_ ≠ a := (mems pv_ hps).1
    have hne : ∀ q ∈ O', q.1 ≠ a := fun q hq => (mems q.1 (af.new q hq)).1
    have hmem' : ∀ q ∈ (a, XO a oa) :: O', Mem O Hc q.1 := fun q hq => by
      rcases List.mem_cons.mp hq with rfl | hq
      · exact hmem (a, XO a oa) List.mem_cons_self
      · exact (mems q.1 (af.new q hq)).2.1
    have hdis' : b ≠ a ∧ ∀ r ∈ O', r.1 ≠ b := ⟨hdis.1, fun r hr2 => (mems r.1 (af.new r hr2)).2.2⟩
    refine wpG_pure ?_
    have I1 := C'.ig hbg
    refine wpG_mono (pg_G (X := yS P w K mg base f3 cd s0 A outer n sw Hc) (Q := fun σ' H'' => σ' = [some (.ref a0), some (.ref b), some (.ref pv_)] ∧ H'' = H') (v := .ref pv_) (pg_name (i := 2) (by show nS.Nodup; decide) rfl (.inl rfl) (.inr rfl)) (fun _ _ z => z) I1 rfl ⟨rfl, rfl⟩) (fun _ r ⟨σ', H'', J, e1, e2⟩ Jx => ?_) fun _ _ z => z
    subst e1
    rw [e2] at J
    refine gg_execs_cons (gg_If ?_)
    rw [hov]
    refine wpG_mono (pt_G (X := yS P w K mg base f3 cd s0 A outer n sw Hc) (Q := fun b2 H2 => b2 = okb W st z ∧ Same H' H2) (pt_val (pe_cl Gs hr (by rfl) (x.tx.g 21) (pa_cons (pv 1) (pa_cons (pv 2) pa_nil)))) (fun _ _ z => z) J ?_) (fun bb r2 ⟨H2, I2, eb, s2⟩ => ?_) fun _ _ z => z
    · exact ⟨_, rfl, _, rfl, b, pv_, W, rs W st, z, rfl, ⟨dx, tp, (F'.htr _ List.mem_cons_self).2.1, (F'.cdf tp _ ⟨rfl, rfl⟩).2⟩, x.ok.red _, hp, hzl, fun H3 s3 => ⟨_, rfl, rfl, s3⟩⟩
    -- its view
    have F2 : Fr (xS P w K mg base f3 cd s0 A outer n) (tA Pt) [] (dfS W st tp) [n] [(b, insS K W dx tp)] Hc O H2 r2 := ⟨fun c hc => by rw [List.mem_singleton.mp hc]; exact ⟨Nat.le_refl _, I2.inv.free, inv_locals I2.inv⟩, fun q hq => ⟨(F'.htr q hq).1, s2 _ _ (F'.htr q hq).2.1, (F'.htr q hq).2.2⟩, F'.kp.full s2, fun _ z => by simp at z, fun c o h => ⟨(F'.cdf c o h).1, s2 _ _ (F'.cdf c o h).2⟩⟩
    have D2 : Held H2 a oa gn O' := ⟨s2 _ _ ea, D.gob, fun q hq => s2 _ _ (af.own q hq), af.kind, hne⟩
    cases hb : okb W st z with
    | false =>
      rw [hb] at eb
      subst eb
      have e3 : (z :: zs).filter (okb W st) = zs.filter (okb W st) := List.filter_cons_of_neg (by rw [hb]; exact Bool.false_ne_true)
      rw [e3]
      exact gg_again rfl (ih (Cd H') sw Hc O gf H2 r2 gs' gf' O' oa _ hzs hsh (CG.of I2 C'.gne) F2 D2 hm hmem' hdis' (fun c o h => s2 _ _ h.2) hsl')
    | true =>
      rw [hb] at eb
      subst eb
      have e3 : (z :: zs).filter (okb W st) = z :: zs.filter (okb W st) := List.filter_cons_of_pos hb
      rw [e3]
      refine gg_execs_cons (gg_Yield rfl rfl rfl rfl rfl ?_)
      rw [hov]
      refine wpG_mono (pe_G (X := yS P w K mg base f3 cd s0 A outer n sw Hc) (Q := fun v H3 => v = .ref pv_ ∧ H3 = H2) (pv 2) (fun _ _ z => z) I2 ⟨_, rfl, rfl, rfl⟩) (fun v r3 ⟨vv, H3, I3, rv, e4, e5⟩ k2 l2 pos hk2 => ?_) fun _ _ z => z
      subst e4
      rw [e5] at I3
      obtain rfl : v = Value.ref pv_ := rv
      have F3 : Fr (xS P w K mg base f3 cd s0 A outer n) (tA Pt) [] (dfS W st tp) [n] [(b, insS K W dx tp)] Hc O H2 r3 := ⟨fun c hc => by rw [List.mem_singleton.mp hc]; exact ⟨Nat.le_refl _, I3.inv.free, inv_locals I3.inv⟩, F2.htr, F2.kp, F2.avo, F2.cdf⟩
      refine sy_at (x := z.map V.int) (xs := toV (zs.filter (okb W st))) (L := [n]) (tr := [(b, insS K W dx tp)] ++ (a, XO a oa) :: O') S I3 F3.hL List.mem_cons_self (fun _ z => by simp at z) (fun q hq => ?_) (s2 _ _ hp) (mems pv_ hps).2.1 F3.kp (fun y c e => (lookS e).elim) fun s2_ Hc2 pre2 I4 => ?_
      · rcases List.mem_append.mp hq with h | h
        · obtain ⟨a1, a2, a3⟩ := F3.htr q h
          refine ⟨a1, a2, ?_, a3⟩
          rw [List.mem_singleton.mp h]
          exact Ne.symm (mems pv_ hps).2.2
        · refine ⟨?_, ?_, ?_, hmem' q h⟩
          · rcases List.mem_cons.mp h with rfl | h
            · trivial
            · exact af.kind q h
          · rcases List.mem_cons.mp h with rfl | h
            · exact D2.obj
            · exact D2.own q h
          · rcases List.mem_cons.mp h with rfl | h
            · exact Ne.symm hpa
            · exact hpO q h
      · rw [hk2 _ rfl]
        have hmT : ∀ q ∈ [(b, insS K W dx tp)] ++ (a, XO a oa) :: O', Mem O Hc q.1 := fun q hq => by
          rcases List.mem_append.mp hq with h | h
          · exact (F3.htr q h).2.2
          · exact hmem' q h
        have F4 := fr_woken F3 pre2 (fun q hq => List.mem_append_left _ hq) hmT (fun _ z => by simp at z)
        have tl : ∀ q ∈ [(b, insS K W dx tp)] ++ (a, XO a oa) :: O', unt [n] Hc2 q.1 = some q.2 := fun q hq => by
          rw [unt_out fun hz => ?_]
          · exact pre2.own _ (List.mem_append_right _ hq)
          · have hn := (F3.hL _ hz).2.1
            rcases List.mem_append.mp hq with h | h
            · rw [(F3.htr q h).2.1] at hn; cases hn
            · rcases List.mem_cons.mp h with rfl | h
              · rw [D2.obj] at hn; cases hn
              · rw [D2.own q h] at hn; cases hn
        refine gg_again rfl (ih (Cd H') s2_ Hc2 _ _ _ _ gs' gf' O' oa _ hzs pre2.sh (CG.of I4 C'.gne) F4 ⟨tl _ (List.mem_append_right _ List.mem_cons_self), D.gob, fun q hq => tl q (List.mem_append_right _ (List.mem_cons_of_mem _ hq)), af.kind, hne⟩ hm (fun q hq => .inl ⟨q, List.mem_append_right _ (List.mem_append_right _ hq), rfl⟩) hdis' (fun c o h => ?_) hsl')
        obtain ⟨sto, h⟩ := h
        have h2 := s2 _ _ h
        have hcL : c ∉ [n] := fun z => by rw [(F3.hL c z).2.1] at h2; cases h2
        rw [unt_out hcL]
        exact pre2.code c o ⟨sto, by rw [tell_out hcL]; exact h2⟩
end
end NwG
end
section
/-! sorted_arrangements: its contract. -/
namespace NwG
open PySem PySem.Spec PyProof.Rows L2 NwB NwM NdefX LamX StX Nw
/-- what it hands out -/
def srtd (W : Nat) (st : List Nat) : List (List Int) := (arr W W []).filter (okb W st)
theorem arr_len {W : Nat} : ∀ z ∈ arr W W [], z.length = W := fun z hz => (mem_arr_iff.mp hz).1
section
variable {P : Program} {w : World} {K : PySem.W.Frag} {mg : PySem.Str → Option Value} {base : Heap} {cA Pt f3 : Addr} {W : Nat} {st : List Nat} {s0 : Shared} {A : Around} {outer : List Env} {n : Addr} {p : Nat → Pos} {cd : Value}
theorem room_in {k : Nat} {A : Around} {env : Env} (hr : Room (k + 1) A) : Room k (A.deeper env).in1 := by
  have h := hr.deeper (k := k) env
  refine ⟨h.hd, ?_, ?_⟩
  · have := hr.dp
    show A.depth + 1 + 3 * k + 5 < _
    omega
  · have := hr.un
    show A.units + 3 + 1 + 16 * k + 200 < _
    omega
theorem sor_sleep (x : SoS P w K mg base cA Pt W st) {X0 : Cx} {H0 : Hp} {s1 : Shared} {D : Cds} {O : Own} {g : Nat} {a0 : Addr} (I0 : Inv X0 [] [some (.ref a0), none, none] H0 s1) (eN : X0.N = nS) (ee : X0.env = envS f3 n cd) (hO : ∀ b ∈ [n], ∃ o, s1.heap.get? b = some o ∧ (b, XO b o) ∈ O) (hr : Room (2 * W + 8) A) (hf : A.frames = some outer)
    (hb0 : base.objs.size ≤ n) (hlo : ∀ b ∈ frs outer, b < n) : Sleep (Cxgp (xS P w K mg base f3 cd s0 A outer n) A g (shS K Pt a0 W st) (tA Pt)) (toV (srtd W st)) D O [] (.fresh (.func (bSor p) (envS f3 n cd))) := by
  refine sleep_iff.mpr fun s Hc pre => ?_
  have S : Sta (xS P w K mg base f3 cd s0 A outer n) A := sta_S x hr.hd hf hb0 hlo
  have hr7 : Room 7 (A.deeper (envS f3 n cd)) := (hr.mono (show 8 ≤ 2 * W + 8 by omega)).deeper _
  have hr6 : Room 6 (A.deeper (envS f3 n cd)) := hr7.mono (by decide)
  have I : IG (yS P w K mg base f3 cd s0 A outer n s Hc) s (At []) [] [] [some (.ref a0), none, none] (unt [n] Hc) s :=
    rebase (X := xS P w K mg base f3 cd s0 A outer n) (X0 := X0) (L := [n]) S eN ee (inv_bare (T' := s1.gens) I0 AllBare.empty) pre (fun b hb => by obtain ⟨o, h1, h2⟩ := hO b hb; exact ⟨by rw [List.mem_singleton.mp hb]; exact Nat.le_refl _, o, h1, h2⟩) List.mem_cons_self (fun _ z => by simp at z) fun y c e => (lookS e).elim
  have kp0 : Kp (tA Pt) Hc O (unt [n] Hc) := Kp.unt fun b hb => by
    obtain ⟨o, _, h2⟩ := hO b hb
    exact ⟨⟨o, pre.own _ h2⟩, _, h2, rfl⟩
  have hsh : shS K Pt a0 W st s.heap Hc := pre.sh
  obtain ⟨on, _, hon⟩ := hO n List.mem_cons_self
  have hnX : Hc n = some (XO n on) := pre.own _ hon
  have net0 : Net K (unt [n] Hc) a0 W st := by
    obtain ⟨dx, tp, n1, n2⟩ := hsh.2
    refine ⟨dx, tp, ?_, ?_⟩
    · rw [unt_out fun z => ?_]
      · exact n1
      · rw [List.mem_singleton.mp z, hnX] at n1; cases n1
    · rw [unt_out fun z => ?_]
      · exact n2
      · rw [List.mem_singleton.mp z, hnX] at n2; cases n2
  have G1 : Okd P w K mg base 7 d_check_width_counting ["network", "most"] (spChkC K) := okd_mono (ok_check_width_counting x.tx) (by decide)
  have G2 : Okd P w K mg base 7 d_reduced ["network"] (spRed K) := okd_mono (ok_reduced x.tx) (by decide)
  obtain ⟨tk, hml⟩ := He.int_ok x.tx.kin x.tx.ns (x.tx.c.fact 60 (f := .int "MAX_LIST_WIDTH" 6) rfl)
  have hW6 := x.W6
  -- the check
  refine gg_func (gg_execs_cons (gg_wrap ?_))
  rw [GenW.over_func]
  refine wpG_mono (ps_G (X := yS P w K mg base f3 cd s0 A outer n s Hc) (D := { nx := fun σ H' => σ = [some (.ref a0), none, none] ∧ H' = unt [n] Hc, rt := fun _ _ => False, bk := fun _ _ => False, ct := fun _ _ => False })
    (ps_expr (pe_cl G1 hr7 (by rfl) (x.tx.g 25) (pa_cons (pv 0) (pa_cons (pe_glob (v := .int 6) (by rfl) hml ⟨_, rfl⟩) pa_nil)))) (fun _ _ z => z) I ?_) (fun fl s2 hfl => ?_) fun _ _ z => z.elim
  · exact ⟨_, rfl, a0, W, st, 6, rfl, net0, by omega, rfl, rfl⟩
  cases fl with
  | brk => obtain ⟨_, _, _, z⟩ := hfl; exact z.elim
  | cont => obtain ⟨_, _, _, z⟩ := hfl; exact z.elim
  | ret u => obtain ⟨_, _, _, _, _, z⟩ := hfl; exact z.elim
  | next =>
  obtain ⟨σ1, H1, I1, rfl, rfl⟩ := hfl
  -- short
  refine gg_execs_cons (gg_wrap ?_)
  rw [GenW.over_func]
  refine wpG_mono (ps_G (X := yS P w K mg base f3 cd s0 A outer n s Hc) (D := { nx := fun σ H' => ∃ b, σ = [some (.ref a0), some (.ref b), none] ∧ Same (unt [n] Hc) H' ∧ unt [n] Hc b = none ∧ Net K H' b W (rs W st), rt := fun _ _ => False, bk := fun _ _ => False, ct := fun _ _ => False })
    (ps_set (i := 1) (by show nS.Nodup; decide) rfl (Or.inl rfl) (pe_cl G2 hr7 (by rfl) (x.tx.g 19) (pa_cons (pv 0) pa_nil))) (fun _ _ z => z) I1 ?_) (fun fl s3 hfl => ?_) fun _ _ z => z.elim
  · exact ⟨_, rfl, a0, W, st, rfl, net0, x.ok, fun H' b s1 hb nn => ⟨b, rfl, s1, hb, nn⟩⟩
  cases fl with
  | brk => obtain ⟨_, _, _, z⟩ := hfl; exact z.elim
  | cont => obtain ⟨_, _, _, z⟩ := hfl; exact z.elim
  | ret u => obtain ⟨_, _, _, _, _, z⟩ := hfl; exact z.elim
  | next =>
  obtain ⟨σ2, H2, I2, b, rfl, sm, hb0', dx, tp, m1, m2⟩ := hfl
  -- the loop
  refine gg_execs_cons ?_
  refine gg_For (tg := .Name "values" (p 10)) (iter := bCal p) (body := bBod p) (pos := p 23) rfl (hs := fun _ => rfl) ?_
  rw [GenW.over_func]
  refine wpG_mono (sor_make x I2 (net0.same sm) (hr7.mono (by decide))) (fun u r hu => ?_) fun _ _ z => z
  obtain ⟨n', a, g', oa, sa, rfl, ha0, hn', hL, isg, gob, mz, ⟨XA, HA, eA1, eA2, IA⟩, C⟩ := hu
  refine wpG_of (wpAny_pyIter_gen isg ?_)
  intro k1 l1 p1 hk1
  have hlt : n < n' := Nat.lt_of_lt_of_le I2.inv.lt hn'
  have nl : ∀ c o, H2 c = some o → c ∉ lA n' := fun c o e z => by rw [(hL c z).2.1] at e; cases e
  have kpt : ∀ c o, H2 c = some o → upd (tell (lA n') sa.heap H2) a (XO a oa) c = some o := fun c o e => by
    rw [upd_ne (ne_of_none e ha0), tell_out (nl c o e)]; exact e
  have atL : ∀ c ∈ lA n', ∀ o, sa.heap.get? c = some o → upd (tell (lA n') sa.heap H2) a (XO a oa) c = some (XO c o) := fun c hc o e => by
    rw [upd_ne (hL c hc).2.2.1, tell_in hc e]
  have F3 : Fr (xS P w K mg base f3 cd s0 A outer n) (tA Pt) [] (dfS W st tp) [n] [(b, insS K W dx tp)] Hc O (upd (tell (lA n') sa.heap H2) a (XO a oa)) r := by
    refine ⟨fun c hc => ?_, fun q hq => ?_, (kp0.full sm).full kpt, fun _ z => by simp at z, fun c o ⟨h1, h2⟩ => ?_⟩
    · rw [List.mem_singleton.mp hc]; exact ⟨Nat.le_refl _, C.inv.free, inv_locals C.inv⟩
    · rw [List.mem_singleton.mp hq]
      exact ⟨trivial, kpt _ _ m1, kp0.mem hb0'⟩
    · subst h1 h2
      exact ⟨.inr ⟨_, rfl⟩, kpt _ _ m2⟩
  have mem2 : ∀ c, H2 c = none → Mem O Hc c := fun c e => (kp0.full sm).mem e
  have hob : ∀ q ∈ xos (lA n') sa.heap, q.1 ∈ lA n' ∧ upd (tell (lA n') sa.heap H2) a (XO a oa) q.1 = some q.2 := fun q hq => by
    obtain ⟨q1, o, q2, q3⟩ := of_xos hq
    exact ⟨q1, by rw [q3]; exact atL _ q1 o q2⟩
  refine sor_loop (s0 := s0) (n' := n') x hr6 hr.hd hf hb0 hlo hlt (hk1 _ rfl) (arr W W []) (fun _ _ => False) s Hc O [] _ r (.fresh (.func (bArr pA) (envA (He.ga K "arrangements") n' (.ref cA)))) [] (xos (lA n') sa.heap) oa none arr_len hsh C F3
    ⟨upd_same, gob, fun q hq => (hob q hq).2, fun q hq => ?_, fun q hq => (hL _ (hob q hq).1).2.2.1⟩ (Int.le_of_eq mz) (fun q hq => ?_) ⟨ne_of_none m1 ha0, fun q hq e => nl _ _ m1 (by rw [← e]; exact (hob q hq).1)⟩ (fun _ _ z => z.elim) ?_
  · obtain ⟨q1, o, q2, q3⟩ := of_xos hq
    rw [q3]; trivial
  · rcases List.mem_cons.mp hq with rfl | hq
    · exact mem2 _ ha0
    · exact mem2 _ (hL _ (hob q hq).1).2.1
  · refine arr_sleep (s0 := s0) ⟨x.mod, x.tx.len, x.tx.list, x.tx.range, by omega, x.tb⟩ IA eA1 eA2 (fun c hc => ?_) (room_in (hr.mono (by omega))) (Around.frames_deeper hf) (Nat.le_trans hb0 (Nat.le_of_lt hlt)) (fun c hc => ?_)
    · obtain ⟨_, _, _, o, ho⟩ := hL c hc
      exact ⟨o, ho, mem_xos hc ho⟩
    · rcases List.mem_cons.mp (show c ∈ n :: frs outer from hc) with rfl | hc
      · exact hlt
      · exact Nat.lt_trans (hlo c hc) hlt
end
end NwG
end
section
/-! The hand's judgements over loud steps: statements, tests, calls whose runs may hold such steps; the readings are the hand's own. -/
namespace NwG
open PySem PySem.Spec PyProof.Rows L2 NwB NwM NdefX LamX StX Nw
section
variable {M : Model} {A : Around} {s : Shared} {env : Env}
theorem wpG_execs_cons {st : Stmt} {rest : List Stmt} {Q : Flow → Shared → Prop} (h : wpG M A (exec st env) (fun f s' => match f with | .next => wpG M A (execs rest env) Q Emp s' | f => Q f s') Emp s) : wpG M A (execs (st :: rest) env) Q Emp s := by
  rw [execs_cons]
  refine wpG_bind (wpG_mono h (fun f s' q => ?_) fun _ _ z => z)
  cases f with
  | next => exact q
  | ret v => exact wpG_pure q
  | brk => exact wpG_pure q
  | cont => exact wpG_pure q
theorem wpG_execs_nil {Q : Flow → Shared → Prop} (h : Q .next s) : wpG M A (execs [] env) Q Emp s := wpG_pure h
theorem wpG_IfS {test : Expr} {body orelse : List Stmt} {pos : Pos} {Q : Flow → Shared → Prop} (h : wpG M A (isTrue test env (eval test env)) (fun b s' => wpG M A (execs (if b = true then body else orelse) env) Q Emp s') Emp s) : wpG M A (exec (.If test body orelse pos) env) Q Emp s := by
  rw [exec_If]
  refine wpG_bind (wpG_of (wpAny_standAt ?_))
  refine wpG_bind (wpG_mono h (fun b s' q => ?_) fun _ _ z => z)
  cases b with
  | true => exact q
  | false => exact q
theorem wpG_SetName {x : PySem.Str} {pos' pos : Pos} {value : Expr} {Q : Flow → Shared → Prop} (hs : swapsWith value (some (.Name x pos')) pos.line env = pure false) (h : wpG M A (eval value env) (fun v s1 => wpG M A (assign (.Name x pos') env v) (fun _ s2 => Q .next s2) Emp s1) Emp s) :
    wpG M A (exec (.Assign [.Name x pos'] value pos) env) Q Emp s := by
  rw [exec_Assign_Name env x pos' value pos hs]
  refine wpG_bind (wpG_of (wpAny_standAt ?_))
  refine wpG_bind (wpG_mono h (fun v s1 q => ?_) fun _ _ z => z)
  have e : (do standAt pos'; bindName env x v; pure Flow.next : Sem Flow) = (assign (.Name x pos') env v >>= fun _ => pure Flow.next) := by rw [PySem.assign_Name, bind_assoc]
  rw [e]
  exact wpG_bind (wpG_mono q (fun _ s2 q2 => wpG_pure q2) fun _ _ z => z)
theorem wpG_notT {x : Expr} {pos : Pos} {whole : Sem Value} {Q : Bool → Shared → Prop} (h : wpG M A (isTrue x env (eval x env)) (fun c s' => Q (!c) s') Emp s) : wpG M A (isTrue (.UnaryOp .Not x pos) env whole) Q Emp s := by
  show wpG M A (isTrue x env (eval x env) >>= fun c => pure (!c)) Q Emp s
  exact wpG_bind (wpG_mono h (fun c s' q => wpG_pure q) fun _ _ z => z)
theorem wpG_or2 {a b : Expr} {pos : Pos} {whole : Sem Value} {Q : Bool → Shared → Prop} (h : wpG M A (isTrue a env (eval a env)) (fun c s' => if c = true then Q true s' else wpG M A (isTrue b env (eval b env)) Q Emp s') Emp s) :
    wpG M A (isTrue (.BoolOp .Or [a, b] pos) env whole) Q Emp s := by
  show wpG M A (do
    match BoolOp.Or, ← isTrue a env (eval a env) with
    | .And, false => pure false
    | .Or, true => pure true
    | _, _ => allTrue .Or [b] env) Q Emp s
  refine wpG_bind (wpG_mono h (fun c s' q => ?_) fun _ _ z => z)
  cases c with
  | true => exact wpG_pure q
  | false =>
    show wpG M A (do
      match BoolOp.Or, ← isTrue b env (eval b env) with
      | .And, false => pure false
      | .Or, true => pure true
      | _, _ => allTrue .Or [] env) Q Emp s'
    refine wpG_bind (wpG_mono q (fun c s' q => ?_) fun _ _ z => z)
    cases c with
    | true => exact wpG_pure q
    | false => exact wpG_pure q
theorem wpG_valT {e : Expr} {whole : Sem Value} {Q : Bool → Shared → Prop} (h : wpG M A whole (fun v s1 => wpG M A (truthy v) Q Emp s1) Emp s) (he : isTrue e env whole = (do let v ← whole; standAt e.pos; holding [v] (truthy v))) : wpG M A (isTrue e env whole) Q Emp s := by
  rw [he]
  refine wpG_bind (wpG_mono h (fun v s1 q => ?_) fun _ _ z => z)
  exact wpG_bind (wpG_of (wpAny_standAt (wpG_holding q)))
end
/-! ### calls -/
section
variable {P : Program} {w : World} {A : Around} {s : Shared}
theorem codeG_call_def {a : Addr} {args : Args} {o : Obj} {fd : FuncData} {body : List Stmt} {R : Result → Shared → Prop} (hroom : A.depth < recursionLimit) (ho : s.heap.get? a = some o) (hd' : o.data = .func fd) (hco : fd.scope.isCoroutine = false) (hgen : fd.scope.isGenerator = false) (hbody : fd.body = .stmts body) (hcd : s.heap.CodeRec fd.code fd.qualname)
    (h : wpAny (model P w) A.in1 (bindArgs fd args) (fun binds s₁ => wpAny (model P w) A.in1 (newFunctionEnv fd.scope fd.globals fd.closure binds (fd.qualname ++ ".<locals>.") (some a) fd.code none fd.builtins)
        (fun env s₂ => s₂.heap.NoLimit ∧ codeG (model P w) A (.func body env) R s₂) Emp s₁) Emp s) : codeG (model P w) A (.call (.ref a) args) R s := by
  refine codeG_of_tree ?_
  show wpG _ A.in1 (callAny (.ref a) args) _ _ s
  simp only [callAny]
  refine wpG_bind (wpG_of (wpAny_load ho ?_))
  obtain ⟨c, oc, vs, tq, hc, hoc, hdc, hq⟩ := hcd
  simp only [hd', callFunction, hco, hgen, hbody, hc]
  rw [hc] at h
  refine wpG_bind (m := field (.ref c) 1) (wpG_of (wpAny_field hoc hdc hq ?_))
  refine wpG_bind (wpG_pure ?_)
  refine wpG_bind (wpG_mono (wpG_of h) (fun binds s₁ h₁ => ?_) fun _ _ z => z.elim)
  refine wpG_bind (wpG_mono (wpG_of h₁) (fun env s₂ h₂ => ?_) fun _ _ z => z.elim)
  refine wpG_bind (wpG_of (wpAny_enterFrame h₂.1 hroom ?_))
  exact wpG_pure (And.intro rfl h₂.2)
theorem codeG_func {body : List Stmt} {env : Env} {R : Result → Shared → Prop} (h : wpG (model P w) (A.deeper env) (execs body env) (fun f s' => R (.ok (.ret (match f with | .ret v => v | _ => .none))) s') Emp s) : codeG (model P w) A (.func body env) R s := by
  refine codeG_of_tree ?_
  show wpG _ (A.deeper env) (do point; match ← (execs body env).onRaise (leaving env) with | .ret v => ret v | _ => ret .none) _ _ s
  refine wpG_bind (wpG_of (wpAny_point ?_))
  refine wpG_bind (wpG_onRaise (wpG_mono h (fun f s' q => ?_) fun _ _ z => z.elim))
  cases f <;> exact wpG_pure q
theorem codeG_forLoop {R : Result → Shared → Prop} {target : Expr} {it : Value} {body : List Stmt} {env : Env} (I : Nat → Shared → Prop)
    (turn : ∀ n s, I n s → wpG (model P w) A (pyNext it) (fun r s₁ => match r with
      | none => R (.ok .next) s₁
      | some v => wpG (model P w) A (letOwnedTupleGo target it v) (fun _ s₁' => wpG (model P w) A (assign target env v) (fun _ s₂ => wpG (model P w) A (execs body env) (fun f s₃ => match f with
            | .next | .cont => ∃ m, m < n ∧ I m s₃
            | .brk => R (.ok .next) s₃
            | .ret v => R (.ok (.ret v)) s₃) Emp s₂) Emp s₁') Emp s₁) Emp s) :
    ∀ (n : Nat) (s : Shared), I n s → codeG (model P w) A (.forLoop target it body [] env) R s := by
  intro n
  induction n using Nat.strongRecOn with
  | ind n ih =>
    intro s hI
    refine codeG_of_tree ?_
    show wpG _ A ((forTurn target it body [] env).onRaise (fun x => do noteFrame x env; theTreesLotGoes x)) _ _ s
    refine wpG_onRaise ?_
    simp only [forTurn]
    refine wpG_bind (wpG_of (wpAny_standAt ?_))
    refine wpG_bind (wpG_onRaise (wpG_mono (turn n s hI) (fun r s₁ h₁ => ?_) fun _ _ z => z.elim))
    cases r with
    | none =>
      refine wpG_pure ⟨rfl, codeG_of_tree ?_⟩
      exact wpG_pure h₁
    | some v =>
      refine wpG_bind (wpG_mono h₁ (fun _ s₁' h₁' => ?_) fun _ _ z => z.elim)
      refine wpG_bind (wpG_mono h₁' (fun _ s₂ h₂ => wpG_bind (wpG_mono h₂ (fun f s₃ h₃ => ?_) fun _ _ z => z.elim)) fun _ _ z => z.elim)
      cases f with
      | next => obtain ⟨m, hm, hI'⟩ := h₃; exact wpG_pure ⟨rfl, ih m hm s₃ hI'⟩
      | cont => obtain ⟨m, hm, hI'⟩ := h₃; exact wpG_pure ⟨rfl, ih m hm s₃ hI'⟩
      | brk => exact wpG_pure h₃
      | ret v => exact wpG_pure h₃
theorem wpG_For {target iter : Expr} {body : List Stmt} {pos : Pos} {env : Env} {Q : Flow → Shared → Prop} (h : wpG (model P w) A (eval iter env) (fun x s₁ => wpG (model P w) A (pyIter x) (fun it s₂ => codeG (model P w) A (.forLoop target it body [] env) (fun r s' => match r with | .ok f => Q f s' | .error _ => False) s₂) Emp s₁) Emp s)
    (hs : ∀ x, foldedSetIterable iter env x = pure x := by intro _; rfl) : wpG (model P w) A (exec (.For target iter body [] pos) env) Q Emp s := by
  rw [exec_For]
  refine wpG_bind (wpG_of (wpAny_standAt ?_))
  refine wpG_bind (wpG_mono h (fun x s₁ h₁ => ?_) fun _ _ z => z)
  rw [hs x]
  refine wpG_bind (wpG_pure ?_)
  refine wpG_bind (wpG_of (wpAny_standAt ?_))
  refine wpG_bind (wpG_holding (wpG_mono h₁ (fun it s₂ h₂ => ?_) fun _ _ z => z))
  unfold runOwn
  refine wpG_onRaise (wpG_run (h := none) (codeG_mono h₂ fun r s' q => ?_))
  cases r with
  | ok f => exact q
  | error e => exact q.elim
theorem wpG_keep {α : Type} {M : Model} {E : Value → Shared → Prop} {vs : List Value} {m : Sem α} {Q : α → Shared → Prop} (h : wpG M A m Q E s) : wpG M A (m.keep vs) Q E s := by
  intro c st hc K H gd lv p Φ hQ hE
  rw [Sem.keep_eq_wrap, Sem.wrap_wrap]
  exact h c st hc _ _ _ _ p Φ hQ hE
/-- f(..), f of the written part -/
theorem wpG_callWith {K : PySem.W.Frag} {env : Env} {pos : Pos} {f : Value} {e : Expr} {rest : List Expr} {Q : Value → Shared → Prop} (hk : PySem.W.keepIn K f = true) (h : wpAny (model P w) A (spliced (backTo pos (starEach (e :: rest) env))) (fun vs s₁ => K.In s₁.heap ∧ wpG (model P w) A (PySem.call f vs) Q Emp s₁) Emp s)
    (he : starEach (e :: rest) env = (false, eval e env) :: starEach rest env) (hplain : (backTo pos (starEach rest env)).any (·.1) = false) : wpG (model P w) A (callWith pos f [] (backTo pos (starEach (e :: rest) env)) []) Q Emp s := by
  rw [he] at h ⊢
  have hpl : ((backTo pos ((false, eval e env) :: starEach rest env)).any (·.1) || ([] : List (Option PySem.Str × Sem Value)).any (·.1.isNone)) = false := by
    show ((false || (backTo pos (starEach rest env)).any (·.1)) || false) = false
    rw [hplain]; rfl
  have h2 : wpAny (model P w) A (evalArgs f true (backTo pos ((false, eval e env) :: starEach rest env)) []) (fun a s₁ => a.kw = [] ∧ K.In s₁.heap ∧ wpG (model P w) A (PySem.call f ([] ++ a.pos) a.kw) Q Emp s₁) Emp s :=
    Calls.evalArgs_plain (wpAny_mono h (fun vs s1 q => ⟨rfl, q.1, q.2⟩) fun _ _ z => z)
  unfold callWith
  refine wpG_bind (wpG_holding (wpG_mono (wpG_of h2) (fun a s₁ h₁ => ?_) fun _ _ z => z))
  refine wpG_bind (wpG_of (wpAny_standAt ?_))
  obtain ⟨k, hk', L⟩ := PySem.W.keeps_K (M := model P w) hk _ h₁.2.1
  simp only [hpl]
  refine wpG_bind (wpG_of (L.here ?_))
  have tail : ∀ {t : Sem Value}, wpG (model P w) A t Q Emp s₁ → wpG (model P w) A (t >>= fun r => holding [r] point >>= fun _ => pure r) Q Emp s₁ := fun ht =>
    wpG_bind (wpG_mono ht (fun r s₂ hr => wpG_bind (wpG_holding (wpG_of (wpAny_point (wpG_pure hr))))) fun _ _ z => z)
  have marked (mk : Value) : wpG (model P w) A (callMarked mk f ([] ++ a.pos) a.kw) Q Emp s₁ := by unfold callMarked; exact wpG_keep h₁.2.2
  rcases hk' with rfl | rfl | rfl <;> dsimp only <;> first | exact tail h₁.2.2 | (split <;> first | exact tail h₁.2.2 | exact tail (marked _))
end
end NwG
end
section
/-! Statements, tests, calls by their readings, over loud steps. -/
namespace NwG
open PySem PySem.Spec PyProof.Rows L2 NwB NwM NdefX LamX StX Nw
abbrev NoX (X : Cx) : Prop := ∀ e s, X.xe e s → False
structure QS (X : Cx) (st : Stmt) (t : TS) : Prop where
  run : ∀ (pins : List (Addr × Obj)) (s : Shared) (σ : L2.St) (H : Hp) (D : Ends), Inv X pins σ H s → t D σ H → wpG (model X.prog X.w) X.A (exec st X.env) (SP X pins D) Emp s
structure QSs (X : Cx) (st : List Stmt) (t : TS) : Prop where
  run : ∀ (pins : List (Addr × Obj)) (s : Shared) (σ : L2.St) (H : Hp) (D : Ends), Inv X pins σ H s → t D σ H → wpG (model X.prog X.w) X.A (execs st X.env) (SP X pins D) Emp s
structure QE (X : Cx) (e : Expr) (t : TE) : Prop where
  run : ∀ (pins : List (Addr × Obj)) (s : Shared) (σ : L2.St) (H : Hp) (Q : VK), Inv X pins σ H s → t σ H Q → wpG (model X.prog X.w) X.A (eval e X.env) (EP X pins σ Q) Emp s
structure QT (X : Cx) (e : Expr) (t : TT) : Prop where
  run : ∀ (pins : List (Addr × Obj)) (s : Shared) (σ : L2.St) (H : Hp) (Q : Bool → Hp → Prop), Inv X pins σ H s → t σ H Q → wpG (model X.prog X.w) X.A (isTrue e X.env (eval e X.env)) (TP X pins σ Q) Emp s
section
variable {X : Cx} {st : Stmt} {rest : List Stmt} {t u : TS} {pos : Pos}
theorem qs_of (hx : NoX X) (h : PS X st t) : QS X st t := ⟨fun pins s σ H D I q => wpG_mono (wpG_of (h.run pins s σ H D I q)) (fun _ _ z => z) fun _ _ z => (hx _ _ z).elim⟩
theorem qss_of {l : List Stmt} (hx : NoX X) (h : PSs X l t) : QSs X l t := ⟨fun pins s σ H D I q => wpG_mono (wpG_of (h.run pins s σ H D I q)) (fun _ _ z => z) fun _ _ z => (hx _ _ z).elim⟩
theorem qt_of {e : Expr} {tt : TT} (hx : NoX X) (h : PT X e tt) : QT X e tt := ⟨fun pins s σ H D I q => wpG_mono (wpG_of (h.run pins s σ H D I q)) (fun _ _ z => z) fun _ _ z => (hx _ _ z).elim⟩
theorem qss_nil : QSs X [] tNext := ⟨fun _ _ σ H _ I h => wpG_execs_nil ⟨σ, H, I, h⟩⟩
theorem qss_cons (h1 : QS X st t) (h2 : QSs X rest u) : QSs X (st :: rest) (tSeq t u) := by
  refine ⟨fun pins s σ H D I h => ?_⟩
  refine wpG_execs_cons (wpG_mono (h1.run pins s σ H { D with nx := u D } I h) (fun f s1 q => ?_) fun _ _ z => z)
  cases f with
  | next =>
    obtain ⟨σ', H', I', q⟩ := q
    exact h2.run pins s1 σ' H' D I' q
  | ret v => exact q
  | brk => exact q
  | cont => exact q
theorem qss_one (h1 : QS X st t) : QSs X [st] t := by
  refine ⟨fun pins s σ H D I h => ?_⟩
  refine wpG_execs_cons (wpG_mono (h1.run pins s σ H D I h) (fun f s1 q => ?_) fun _ _ z => z)
  cases f with
  | next => exact wpG_execs_nil q
  | ret v => exact q
  | brk => exact q
  | cont => exact q
theorem qs_if {c : Expr} {a b : List Stmt} {tc : TT} (hc : QT X c tc) (ha : QSs X a t) (hb : QSs X b u) : QS X (.If c a b pos) (tIfS tc t u) := by
  refine ⟨fun pins s σ H D I h => ?_⟩
  refine wpG_IfS (wpG_mono (hc.run pins s σ H _ I h) (fun d s1 ⟨H1, I1, q1⟩ => ?_) fun _ _ z => z)
  cases d with
  | true => exact ha.run pins s1 σ H1 D I1 q1
  | false => exact hb.run pins s1 σ H1 D I1 q1
theorem qs_set {i : Nat} {x : PySem.Str} {e : Expr} {te : TE} {pos' : Pos} (hx : NoX X) (hN : X.N.Nodup) (hi : X.N[i]? = some x) (hl : Loc X.env.scope x) (he : QE X e te) (hs : swapsWith e (some (.Name x pos')) pos.line X.env = pure false := by rfl) (hf : X.fn x = true ∨ X.env.scope.names.lookup x = some .local := by first | exact .inl rfl | exact .inr rfl | assumption) :
    QS X (.Assign [.Name x pos'] e pos) (tAsg te (gName i)) := by
  refine ⟨fun pins s σ H D I h => ?_⟩
  refine wpG_SetName hs (wpG_mono (he.run pins s σ H _ I h) (fun v s1 ⟨y, H1, I1, r1, q1⟩ => ?_) fun _ _ z => z)
  exact wpG_mono (wpG_of ((pg_name hN hi hl hf).run pins s1 σ H1 y v _ I1 r1 q1)) (fun _ s2 ⟨σ2, H2, I2, q2⟩ => ⟨σ2, H2, I2, q2⟩) fun _ _ z => (hx _ _ z).elim
theorem qt_not {a : Expr} {tA : TT} (ha : QT X a tA) : QT X (.UnaryOp .Not a pos) (tNot tA) := ⟨fun pins s σ H Q I h => wpG_notT (ha.run pins s σ H (fun c H1 => Q (!c) H1) I h)⟩
theorem qt_or {a b : Expr} {tA tB' : TT} (ha : QT X a tA) (hb : QT X b tB') : QT X (.BoolOp .Or [a, b] pos) (tOr tA tB') := by
  refine ⟨fun pins s σ H Q I h => ?_⟩
  refine wpG_or2 (wpG_mono (ha.run pins s σ H _ I h) (fun c s1 ⟨H1, I1, q1⟩ => ?_) fun _ _ z => z)
  cases c with
  | true => exact ⟨H1, I1, q1⟩
  | false => exact hb.run pins s1 σ H1 Q I1 q1
theorem qt_val {e : Expr} {te : TE} (h : QE X e te) (he : ∀ whole, isTrue e X.env whole = (do let v ← whole; standAt e.pos; holding [v] (truthy v)) := by intro _; rfl) : QT X e (tB te) := by
  refine ⟨fun pins s σ H Q I hw => ?_⟩
  refine wpG_valT (wpG_mono (h.run pins s σ H _ I hw) (fun v s1 ⟨x, H1, I1, r1, q1⟩ => ?_) fun _ _ z => z) (he _)
  obtain ⟨d, rfl, q⟩ := q1
  obtain rfl : v = Value.bool d := r1
  exact wpG_of (wpAny_truthy_bool ⟨H1, I1, q⟩)
theorem qs_for {tg iter : Expr} {body : List Stmt} {wi : TI} {g : L2.TG} {tb : TS} (hx : NoX X) (hc : X.calm = true) (hi : PI X tg iter wi) (hg : PG X tg g) (hb : QSs X body tb)
    (hs : ∀ x, foldedSetIterable iter X.env x = pure x := by intro _; rfl) : QS X (.For tg iter body [] pos) (tFor wi g tb) := by
  refine ⟨fun pins s σ H D I h => ?_⟩
  refine wpG_For (wpG_mono (wpG_of (hi.run pins s σ H _ I h)) (fun v s1 h1 => wpG_mono (wpG_of h1) (fun itv s2 h2 => ?_) fun _ _ z => (hx _ _ z).elim) fun _ _ z => (hx _ _ z).elim) hs
  obtain ⟨it, fp, tn, J, H2, e, I2, T, st2, f2, W, ⟨m0, w0⟩, turn⟩ := h2
  subst e
  have stat : ∀ {H' : Hp}, (∀ b ∈ fp, H' b = none) → ∀ b ∈ fp, FpOk X pins H' b := fun hn b hb => ⟨hn b hb, (f2 b hb).2⟩
  refine codeG_forLoop (fun n s' => ∃ i σ' H', Inv X pins σ' H' s' ∧ tn i s'.heap ∧ (∀ b ∈ fp, H' b = none) ∧ W i n σ' H') ?_ m0 s2 ⟨0, σ, H2, I2, st2, fun b hb => (f2 b hb).1, w0⟩
  rintro n s3 ⟨i, σ3, H3, I3, st3, fr3, w3⟩
  rcases turn i n σ3 H3 w3 with ⟨stop, qn⟩ | ⟨go, N, hN, step⟩
  · refine wpG_mono (wpG_of (T.done X rfl rfl rfl hc i pins s3 σ3 H3 Emp I3 (stat fr3) st3 stop)) (fun r s4 ⟨hr, I4⟩ => ?_) fun _ _ z => z
    subst hr
    exact ⟨σ3, H3, I4, qn⟩
  · refine wpG_mono (wpG_of (T.item X rfl rfl rfl hc i pins s3 σ3 H3 Emp I3 (stat fr3) st3 go)) (fun r s4 ⟨u, hr, h4⟩ => ?_) fun _ _ z => z
    subst hr
    refine wpG_mono (wpG_of h4) (fun _ s5 ⟨x, H5, I5, r5, y5, st5, fr5⟩ => ?_) fun _ _ z => z
    have I5' := I5.pinned (stat fr5) (T.obj _ _ st5)
    refine wpG_mono (wpG_of (hg.run _ s5 σ3 H5 x u _ I5' r5 (step x H5 y5))) (fun _ s6 ⟨σ6, H6, I6, q6⟩ => ?_) fun _ _ z => (hx _ _ z).elim
    refine wpG_mono (hb.run _ s6 σ6 H6 _ I6 q6) (fun f s7 q7 => ?_) fun _ _ z => z
    have again : ∀ {σ7 : L2.St} {H7 : Hp}, Inv X (pins ++ pinsAt fp s5.heap) σ7 H7 s7 → N σ7 H7 → ∃ m, m < n ∧ ∃ i σ' H', Inv X pins σ' H' s7 ∧ tn i s7.heap ∧ (∀ b ∈ fp, H' b = none) ∧ W i m σ' H' := fun {σ7 H7} I7 n7 => by
      obtain ⟨m', hm, w7⟩ := hN σ7 H7 n7
      refine ⟨m', hm, i + 1, σ7, H7, I7.unpinned, T.keep _ _ _ st5 fun b hb o e => (I7.pin (b, o) (List.mem_append_right _ (List.mem_append_right _ (mem_pinsAt hb e)))).1, fun b hb => ?_, w7⟩
      obtain ⟨o, e, d⟩ := T.obj _ _ st5 b hb
      exact (I7.pin (b, o) (List.mem_append_right _ (List.mem_append_right _ (mem_pinsAt hb e)))).2.1
    cases f with
    | next => obtain ⟨σ7, H7, I7, n7⟩ := q7; exact again I7 n7
    | cont => obtain ⟨σ7, H7, I7, n7⟩ := q7; exact again I7 n7
    | brk => obtain ⟨σ7, H7, I7, q7⟩ := q7; exact ⟨σ7, H7, I7.unpinned, q7⟩
    | ret v => obtain ⟨x7, σ7, H7, I7, r7, q7⟩ := q7; exact ⟨x7, σ7, H7, I7.unpinned, r7, q7⟩
end
/-! ### defs -/
structure FnG (P : Program) (w : World) (K : PySem.W.Frag) (mg : PySem.Str → Option Value) (base : Heap) (k : Nat) (f : Addr) (fd : FuncData) (ps : List PySem.Str) (sp : Sp) : Prop where
  len : ∀ vs H Q E, sp vs H Q E → vs.length = ps.length
  run : ∀ (A : Around) (outer : List Env) (s : Shared) (H : Hp) (args : Args) (us : List Value) (vs : List V) (Q : VK) (E : XK), Room k A → Env0 P w K mg base A outer s H → BindsTo s fd args (ps.zip us) → Vals vs us → sp vs H Q E →
    codeG (model P w) A (.call (.ref f) args) (fun r s' => match r with | .ok (.ret u) => CE outer P w H s Q u s' | _ => False) s
section
variable {P : Program} {w : World} {K : PySem.W.Frag} {mg : PySem.Str → Option Value} {base : Heap}
theorem fn_ofG {k : Nat} {f : Addr} {name qual : PySem.Str} {params : Arguments} {body : List Stmt} {scope : Scope} {fd : FuncData} {N ps : List PySem.Str} {sp : Sp} (F : FunD K name qual params body scope [] [] f fd) (S : FnScope N ps scope) (len : ∀ vs H Q E, sp vs H Q E → vs.length = ps.length)
    (hbody : ∀ (cdv : Value) (A : Around) (outer : List Env) (s : Shared) (H : Hp) (vs : List V) (Q : VK) (E : XK), Room k (A.deeper (envOfC qual scope s.heap.objs.size f cdv)) → Env0 P w K mg base A outer s H → sp vs H Q E →
      ∃ t, QSs (cxOf CX0 P w K mg base N qual scope f cdv A outer s H E).nox body t ∧ t { nx := fun _ H' => Q .non H', rt := Q } (start N vs) H) : FnG P w K mg base (k + 1) f fd ps sp := by
  obtain ⟨oc, od, dV, kV, doc, pm, an, cdv, ct, osl, rfl, lk, hcd, _, _⟩ := F.ex
  refine ⟨len, fun A outer s H args us vs Q E hr e0 hb r hsp => ?_⟩
  have hl := len _ _ _ _ hsp
  have KX : K.In s.heap := e0.mod.kin.keeps fun b o e => (e0.bs b o e).1
  have lim : s.heap.NoLimit := e0.mod.nolimit.keeps fun b o e => (e0.bs b o e).1
  have hkind : ∀ y ∈ ps.zip us, scope.names.lookup y.1 = some .local ∨ (scope.names.lookup y.1 = some .cell ∧ ((cellsFrom (s.heap.objs.size + 1) scope.names []).lookup y.1).isSome = true) := fun ⟨n, v⟩ hy => by
    rcases S.par n (List.of_mem_zip hy).1 with q | q
    · exact .inl q
    · exact .inr ⟨q, PySem.W.cellsFrom_some _ _ _ (.inl q)⟩
  refine codeG_call_def hr.depth (KX _ _ lk) rfl S.co S.gen rfl (PySem.W.codeRec_of KX hcd) (hb _ _ _ _ ?_)
  refine wpAny_newFunctionEnv_cells S.kind hkind fun env he s1 x => ?_
  subst he
  refine ⟨lim.keeps x.toInCall.keep, codeG_func ?_⟩
  obtain ⟨t, ht, hq⟩ := hbody cdv A outer s H vs Q E (hr.deeper _) e0 hsp
  have I : Inv (cxOf CX0 P w K mg base N qual scope f cdv A outer s H E) [] (start N vs) H s1 := inv_start S hr.hd e0 hl r x
  refine wpG_mono (ht.run [] s1 (start N vs) H _ (I.wish _) hq) (fun fl s' hs => ?_) fun e s' z => z
  have fin : ∀ {σ' : L2.St} {H' : Hp} {v : V} {u : Value}, Inv (cxOf CX0 P w K mg base N qual scope f cdv A outer s H E) [] σ' H' s' → RelV v u → Q v H' → CE outer P w H s Q u s' :=
    fun {σ' H' v u} J rv q => ⟨v, H', J.os, J.bare, J.base, J.hok, rv, q⟩
  cases fl with
  | ret u =>
    obtain ⟨v, σ', H', J, rv, q⟩ := hs
    exact fin J.unwish rv q
  | next =>
    obtain ⟨σ', H', J, q⟩ := hs
    exact fin (v := V.non) (u := Value.none) J.unwish rfl q
  | brk =>
    obtain ⟨_, _, _, q⟩ := hs
    exact False.elim q
  | cont =>
    obtain ⟨_, _, _, q⟩ := hs
    exact False.elim q
end
/-- f(..) -/
theorem qe_call {X : Cx} {k : Nat} {f : Addr} {fd : FuncData} {ps : List PySem.Str} {sp : Sp} {x : PySem.Str} {p pos : Pos} {e : Expr} {es : List Expr} {t : TA} (hx : NoX X) (F : FnG X.prog X.w X.K X.mg X.base k f fd ps sp) (hr : Room k X.A) (hg : Gl X x) (hm : X.mg x = some (.ref f)) (hk : PySem.W.keepIn X.K (.ref f) = true) (hb : Binds X.K fd ps [])
    (ha : PA X (e :: es) t) (hdb : (x == ("__debug__" : PySem.Str)) = false := by decide) (he : starEach (e :: es) X.env = (false, eval e X.env) :: starEach es X.env := by rfl) (hpl : (backTo pos (starEach es X.env)).any (·.1) = false := by rfl) :
    QE X (.Call (.Name x p) (e :: es) [] pos) (tCall sp [] E0 t) := by
  refine ⟨fun pins s σ H Q I h => ?_⟩
  rw [arm_eval_Call_Name']
  refine wpG_bind (wpG_of (ld_glob I hg hm ?_ hdb))
  refine wpG_callWith (K := X.K) hk (wpAny_mono (ha.run pos pins s σ H _ I h) (fun us s1 ⟨vs, H1, I1, r, q⟩ => ⟨I1.kIn, ?_⟩) fun _ _ z => (hx _ _ z).elim) he hpl
  have q : sp (vs ++ []) H1 Q E0 := q
  rw [List.append_nil] at q
  have hl : us.length = ps.length := by rw [← r.length]; exact F.len _ _ _ _ q
  refine wpG_call (codeG_mono (F.run X.A X.stack s1 H1 ⟨us, []⟩ us vs Q E0 hr I1.env0 (by have := hb s1 us I1.kIn (by rw [List.append_nil]; exact hl); rwa [List.append_nil] at this) r q) fun r s' hq => ?_)
  cases r with
  | error e => exact hq.elim
  | ok fl =>
    cases fl with
    | ret u =>
      obtain ⟨v, H', os, bare, un, hok, rv, q⟩ := hq
      exact ⟨v, H', I1.call' os un hok bare (fun b hb => by simp at hb), rv, q⟩
    | next => exact hq.elim
    | brk => exact hq.elim
    | cont => exact hq.elim
end NwG
end
section
/-! A list takes a generator's items: the loop. -/
namespace NwG
open PySem PySem.Spec PyProof.Rows L2 NwB NwM NdefX LamX StX Nw
theorem codeG_builtinU {P : Program} {w : World} {A : Around} {s : Shared} {id : String} {args : Args} {b : Builtin} {R : Result → Shared → Prop} (hb : entryFor table id = some b)
    (h : wpG (model P w) (A.under (.builtin id args)) (b args) (fun fin s' => match fin with | .done f => R (.ok f) s' | .again c' => c'.quiet = true ∧ codeG (model P w) A c' R s') (fun e s' => R (.error e) s') s) : codeG (model P w) A (.builtin id args) R s := by
  refine codeG_of_tree ?_
  have e : (model P w).den (.builtin id args) = b args := by
    show (match entryFor table id with | some b => b args | none => unsupported ((withoutEnding? id "#data").getD id)) = b args
    rw [hb]
  rw [e]
  exact h
section
variable {X : Cx} {G : Gp} {pins : List (Addr × Obj)} {σ : L2.St} {H H0 : Hp} {s : Shared} {T0 : Shared} {gc : Nat → Prop} {gs : GenState} {gi : Sub}
/-- a list of its own is written -/
theorem cg_list {S : Addr} {xs ys : List V} {its : List Value} {n : Nat} {h' : Heap} {g : Nat} (C : CG X T0 gc g gs gi pins σ H s) (e : H S = some (.lst xs)) (k : Heap.SameBut S s.heap h') (hl : ys.length ≤ sizeLine) (hv : Vals ys its) (e' : h'.get? S = some { cls := .type "list", data := .seq its.toArray n }) :
    CG X T0 gc g gs gi pins σ (upd H S (.lst ys)) { s with heap := h' } :=
  ⟨Inv.write (s := re s #[]) (h' := h') (t' := s.toks) C.inv (x := S) (e := S) (by rw [e]; trivial) (.inl rfl) (fun b u hb q => (k.2 b hb).trans q) ⟨_, e'⟩ ⟨hl, its, n, hv, e'⟩, C.gt, C.at_, C.subs, C.gne, C.new, C.news, by show _ ≤ h'.objs.size; rw [k.1]; exact C.hsz⟩
theorem kp_list {T : List NTab} {S : Addr} {xs ys : List V} (k : Kp T H0 [] H) (h0 : H0 S = none) (e : H S = some (.lst xs)) : Kp T H0 [] (upd H S (.lst ys)) where
  ext := fun b u n h1 h2 => by
    rw [upd_ne fun z => ?_]
    · exact k.ext b u n h1 h2
    · rw [z, h0] at h1; cases h1
  tbl := fun b ps hm h => by
    obtain ⟨more, z⟩ := k.tbl b ps hm h
    exact ⟨more, by rw [upd_ne fun y => by rw [y, e] at z; cases z]; exact z⟩
  tab := fun t p hp => by
    obtain ⟨ps, h1, h2, h3⟩ := k.tab t p hp
    refine ⟨ps, by rw [upd_ne fun y => by rw [y, e] at h1; cases h1]; exact h1, h2, fun pos cv hc => ?_⟩
    obtain ⟨c, e1, e2⟩ := h3 pos cv hc
    refine ⟨c, e1, ?_⟩
    rw [upd_ne fun y => ?_]
    · exact e2
    · rw [y, e] at e2
      have e3 := Option.some.inj e2
      unfold CodeO at e3
      cases e3
  code := fun c q st h => by
    rw [upd_ne fun y => by rw [y, h0] at h; cases h]
    exact k.code c q st h
/-- so far -/
structure Dr (X : Cx) (G : Gp) (pins : List (Addr × Obj)) (σ : L2.St) (T0 : Shared) (gc : Nat → Prop) (H0 : Hp) (S a : Addr) (oa : Obj) (ds : List Addr) (done : List (List V)) (O : Own) (gs : GenState) (gi : Sub) (H : Hp) (s : Shared) : Prop where
  cg : CG X T0 gc G.g gs gi pins σ H s
  held : Held H a oa G.g O
  kp : Kp G.T H0 [] H
  own0 : ∀ q ∈ (a, XO a oa) :: O, H0 q.1 = none
  s0 : H0 S = none
  sa : S ≠ a
  sO : ∀ q ∈ O, q.1 ≠ S
  hS : H S = some (.lst (ds.map V.ref))
  len : ds.length = done.length
  item : ∀ (i : Nat) (b : Addr) (L : List V), ds[i]? = some b → done[i]? = some L → b ≠ S ∧ b ≠ a ∧ (∀ q ∈ O, q.1 ≠ b) ∧ H b = some (.lst L)
theorem vals_ref : ∀ as : List Addr, Vals (as.map V.ref) (as.map Value.ref)
  | [] => .nil
  | _ :: as => .cons rfl (vals_ref as)
theorem drain_G {B : Around} {S a : Addr} {oa : Obj} {R : Result → Shared → Prop} (geo : Geo X G pins) (hA : G.A = B.in1.in1) (hh : B.handled = none) (hd : B.depth < recursionLimit) (hm : mark oa ≤ 0) (hSh : ∀ (h : Heap) (H : Hp), Kp G.T H0 [] H → G.Sh h H) (hP : G.P = X.prog) (hw : G.w = X.w)
    {all : List (List V)} (hall : all.length ≤ 100000)
    (hend : ∀ (H' : Hp) (s' : Shared) (es : List Addr), IG X T0 gc [] pins σ H' s' → Kp G.T H0 [] H' → H' S = some (.lst (es.map V.ref)) → es.length = all.length → (∀ (i : Nat) (b : Addr) (L : List V), es[i]? = some b → all[i]? = some L → H' b = some (.lst L)) → R (.ok (.ret .none)) s') :
    ∀ (zs done : List (List V)) (D : Cds) (O : Own) (gs : GenState) (gi : Sub) (H : Hp) (s : Shared) (ds : List Addr), done ++ zs = all → Dr X G pins σ T0 gc H0 S a oa ds done O gs gi H s → (∀ c o, D c o → H c = some o) → Sleep G zs D O gi gs →
      codeG (model X.prog X.w) B (.builtin "list.extend.loop" ⟨[.ref S, .ref a, .none], []⟩) R s := by
  intro zs
  induction zs with
  | nil =>
    intro done D O gs gi H s ds hda d hcd hsl
    rw [List.append_nil] at hda
    have ga : GenAt s.heap a G.g := d.held.gob.at_ (xo_get d.cg.inv.hok d.held.obj) hm
    have pre : Pre G D O gi (s.setGen G.g .running) H := cg_pre geo d.cg (hSh _ _ d.kp) d.held.own d.held.kind hcd
    refine codeG_builtinU F.entry_extend_loop ?_
    rw [Around.under_plainId F.plain_extend_loop _]
    show wpG _ B.in1 (pyNext (.ref a) >>= _) _ _ s
    have hgo := hsl _ _ pre
    rw [show G.M = model X.prog X.w by unfold Gp.M; rw [hP, hw], hA] at hgo
    refine wpG_bind (wpG_pyNext_gen (A := B.in1) hh d.cg.inv.nolimit hd ga d.cg.at_ hgo (fun v gs' s' z => z.elim) fun s' hr h' k sz => ?_)
    obtain ⟨H', af⟩ := hr
    have C' := aft_CG (gs' := .finished) geo d.cg pre af
    have I' := ig_kept (h' := h') C'.fin k sz
    have kp' : Kp G.T H0 [] H' := d.kp.aft af.kp fun q hq => .inr (d.own0 q (List.mem_cons_of_mem _ hq))
    refine wpG_pure (hend H' _ ds I' kp' ?_ (by rw [d.len, hda]) fun i b L h1 h2 => ?_)
    · exact af.kp.ext S _ (.inr fun _ z => nomatch z) d.hS d.sO
    · obtain ⟨_, _, b3, b4⟩ := d.item i b L h1 (by rw [hda]; exact h2)
      exact af.kp.ext b _ (.inr fun _ z => nomatch z) b4 b3
  | cons z zs ih =>
    intro done D O gs gi H s ds hda d hcd hsl
    have hdl : done.length + (zs.length + 1) = all.length := by rw [← hda, List.length_append, List.length_cons]
    have ga : GenAt s.heap a G.g := d.held.gob.at_ (xo_get d.cg.inv.hok d.held.obj) hm
    have pre : Pre G D O gi (s.setGen G.g .running) H := cg_pre geo d.cg (hSh _ _ d.kp) d.held.own d.held.kind hcd
    refine codeG_builtinU F.entry_extend_loop ?_
    rw [Around.under_plainId F.plain_extend_loop _]
    show wpG _ B.in1 (pyNext (.ref a) >>= _) _ _ s
    have hgo := hsl _ _ pre
    rw [show G.M = model X.prog X.w by unfold Gp.M; rw [hP, hw], hA] at hgo
    refine wpG_bind (wpG_pyNext_gen (A := B.in1) hh d.cg.inv.nolimit hd ga d.cg.at_ hgo (fun v gs' s' hy => ?_) fun s' hr => hr.elim)
    obtain ⟨p, H', O', gf', rfl, hbg, hp, hps, hpO, af, hsl'⟩ := hy
    have C' := aft_CG (gs' := gs') geo d.cg pre af
    have kp' : Kp G.T H0 [] H' := d.kp.aft af.kp fun q hq => .inr (d.own0 q (List.mem_cons_of_mem _ hq))
    have mem0 : ∀ b, Mem O H b → H0 b = none := fun b hb => by
      rcases hb with ⟨r, r1, r2⟩ | r
      · rw [← r2]; exact d.own0 r (List.mem_cons_of_mem _ r1)
      · rcases d.kp.mem r with ⟨q, hq, _⟩ | q
        · simp at hq
        · exact q
    have apart : ∀ b c o, Mem O H b → H c = some o → (∀ q ∈ O, q.1 ≠ c) → b ≠ c := fun b c o hb hc hO e => by
      rcases hb with ⟨r, r1, r2⟩ | r
      · exact hO r r1 (r2.trans e)
      · rw [e, hc] at r; cases r
    have hS' : H' S = some (.lst (ds.map V.ref)) := af.kp.ext S _ (.inr fun _ z => nomatch z) d.hS d.sO
    have ha' : H' a = some (XO a oa) := af.kp.ext a _ (.inr fun _ z => nomatch z) d.held.obj d.held.ne
    have hpS : p ≠ S := apart p S _ hps d.hS d.sO
    have hpa : p ≠ a := apart p a _ hps d.held.obj d.held.ne
    obtain ⟨hsz, its, n, hv, hat⟩ := C'.inv.hok S _ hS'
    have hat : s'.heap.get? S = some { cls := .type "list", data := .seq its.toArray n } := hat
    have hlen : its.length = ds.length := by rw [← hv.length, List.length_map]
    have hds : ds.length < 100000 := by have := d.len; omega
    show wpG _ B.in1 (updateSeq S (·.push (.ref p)) >>= _) _ _ _
    refine wpG_bind (wpG_of (wpAny_updateSeq (s := s'.setGen G.g gs') hat rfl (wpG_pure ⟨plainId_quiet F.plain_extend_loop _, ?_⟩) (by rw [List.size_toArray, hlen]; have := sizeLine_eq; omega) (by show (its.toArray.push _).size ≤ sizeLine + 1; rw [Array.size_push, List.size_toArray, hlen]; have := sizeLine_eq; omega)))
    have hsb : Heap.SameBut S s'.heap (s'.heap.update S (Obj.mapSeq (·.push (Value.ref p)))) := Heap.SameBut.update ..
    have hat2 : ∃ m, (s'.heap.update S (Obj.mapSeq (·.push (Value.ref p)))).get? S = some { cls := .type "list", data := .seq (its ++ [Value.ref p]).toArray m } := by
      rw [Heap.get?_update_self _ hat rfl]
      exact ⟨_, by simp [Obj.mapSeq]; rfl⟩
    obtain ⟨m, hat2⟩ := hat2
    have hv2 : Vals ((ds ++ [p]).map V.ref) (its ++ [Value.ref p]) := by
      rw [List.map_append]
      exact hv.append (.cons rfl .nil)
    have hl2 : ((ds ++ [p]).map V.ref).length ≤ sizeLine := by
      rw [List.length_map, List.length_append, List.length_singleton]
      have := sizeLine_eq
      omega
    have C2 := cg_list C' hS' hsb hl2 hv2 hat2
    have ne2 : ∀ b o, b ≠ S → H' b = some o → upd H' S (.lst ((ds ++ [p]).map V.ref)) b = some o := fun b o hb e => (upd_ne hb).trans e
    refine ih (done ++ [z]) (Cd H') O' gs' gf' (upd H' S (.lst ((ds ++ [p]).map V.ref))) _ (ds ++ [p]) (by rw [List.append_assoc]; exact hda) ⟨C2, ⟨ne2 _ _ (Ne.symm d.sa) ha', d.held.gob, fun q hq => ne2 _ _ ?_ (af.own q hq), af.kind, fun q hq => apart q.1 a _ (af.new q hq) d.held.obj d.held.ne⟩, kp_list kp' d.s0 hS', fun q hq => ?_, d.s0, d.sa, fun q hq => apart q.1 S _ (af.new q hq) d.hS d.sO, upd_same, ?_, fun i b L h1 h2 => ?_⟩ (fun c o h => ?_) hsl'
    · exact apart q.1 S _ (af.new q hq) d.hS d.sO
    · rcases List.mem_cons.mp hq with rfl | hq
      · exact d.own0 _ List.mem_cons_self
      · exact mem0 _ (af.new q hq)
    · rw [List.length_append, List.length_append, d.len]; rfl
    · rcases Nat.lt_or_ge i ds.length with c | c
      · rw [List.getElem?_append_left c] at h1
        rw [List.getElem?_append_left (by rw [← d.len]; exact c)] at h2
        obtain ⟨b1, b2, b3, b4⟩ := d.item i b L h1 h2
        exact ⟨b1, b2, fun q hq => apart q.1 b _ (af.new q hq) b4 b3, ne2 _ _ b1 (af.kp.ext b _ (.inr fun _ z => nomatch z) b4 b3)⟩
      · rw [List.getElem?_append_right c] at h1
        rw [List.getElem?_append_right (by rw [← d.len]; exact c)] at h2
        have e0 : i - ds.length = 0 := by
          have := (List.getElem?_eq_some_iff.mp h1).1
          simp at this
          omega
        rw [e0] at h1
        rw [← d.len, e0] at h2
        obtain rfl : p = b := by simpa using h1
        obtain rfl : z = L := by simpa using h2
        exact ⟨hpS, hpa, hpO, ne2 _ _ hpS hp⟩
    · obtain ⟨st, h⟩ := h
      exact ne2 _ _ (fun e => by
        rw [e, hS'] at h
        have h := Option.some.inj h
        rcases st with ⟨q, r⟩ | ⟨xs, r⟩
        · rw [← h] at r
          unfold CodeO at r
          cases r
        · rw [← h] at r; cases r) h
end
end NwG
end
section
/-! list(x): the type called, over loud steps. -/
namespace NwG
open PySem PySem.Spec PyProof.Rows L2 NwB NwM NdefX LamX StX Nw
section
variable {P : Program} {w : World} {A : Around} {s : Shared}
theorem wpG_slotA {T : String} {name : PySem.Str} {id : String} {b : Builtin} {self : Value} {rest : List Value} {Q : Value → Shared → Prop} (h : Slot T name id) (hT : s.TypeIs self T) (hb : entryFor table id = some b)
    (hc : wpG (model P w) A.in1 (b ⟨self :: rest, []⟩) (fun fin s' => match fin with | .done f => (∃ v, f = .ret v ∧ Q v s') | .again c' => c'.quiet = true ∧ codeG (model P w) A c' (fun r s' => match r with | .ok (.ret v) => Q v s' | _ => False) s') Emp s) (ha : argsOk id ⟨self :: rest, []⟩) : wpG (model P w) A (PySem.call (.builtin id) (self :: rest)) Q Emp s := by
  refine wpG_call (codeG_of_tree ?_)
  have e : (model P w).den (.call (.builtin id) ⟨self :: rest, []⟩) = (checkBuiltinCall id ⟨self :: rest, []⟩ >>= fun _ => again (.builtin id ⟨self :: rest, []⟩)) := rfl
  rw [e]
  refine wpG_bind (wpG_of (h.check _ _ _ _ _ _ _ _ hT ha ?_))
  refine wpG_pure ⟨plainId_quiet h.plain _, codeG_builtin h.plain hb (wpG_mono hc (fun fin s' hq => ?_) fun _ _ z => z)⟩
  cases fin with
  | done f => obtain ⟨v, rfl, q⟩ := hq; exact q
  | again c' =>
    refine ⟨hq.1, codeG_mono hq.2 fun r s'' q => ?_⟩
    cases r with
    | error e => exact q.elim
    | ok fl => cases fl <;> first | exact q | exact q.elim
theorem wpG_list1 {a : Value} {Q : Value → Shared → Prop} (h : wpG (model P w) A.in1.in1 (Builtin.«list.__init__» ⟨[.ref s.heap.objs.size, a], []⟩) (fun fin s' => match fin with | .done f => (∃ v, f = .ret v ∧ v = .none ∧ Q (.ref s.heap.objs.size) s') | .again c' => c'.quiet = true ∧ codeG (model P w) A.in1 c' (fun r s' => match r with | .ok (.ret v) => v = .none ∧ Q (.ref s.heap.objs.size) s' | _ => False) s') Emp { s with heap := s.heap.push { cls := .type "list", data := .seq #[] } }) :
    wpG (model P w) A (PySem.call (.type "list") [a]) Q Emp s := by
  have ft := F.called_list
  obtain ⟨c, tl, hmro⟩ := ft.mro
  have hmade := ft.made
  have hsub := ft.sub
  have h1 := ft.notType
  have h2 := ft.canCreate
  refine wpG_call (codeG_of_tree ?_)
  show wpG _ _ (callAny (.type "list") _) _ _ _
  refine wpG_pure ⟨Code.quiet_builtin _ (by decide +kernel), codeG_builtinU F.entry_type_call ?_⟩
  rw [Around.under_plain (weight_type_call_type "list" [a] []) rfl]
  unfold Builtin.«type.__call__»
  simp only [h1, h2, Bool.false_eq_true, if_false]
  refine wpG_bind ?_
  rw [F.typeCall_list_1]
  refine wpG_pure (wpG_bind ?_)
  rw [hmro]
  refine wpG_pure ?_
  rw [if_neg (show ¬ (c :: tl).isEmpty = true from Bool.false_ne_true)]
  refine wpG_bind ?_
  rw [hmade]
  refine wpG_pure ?_
  dsimp only
  refine wpG_bind (wpG_pure ?_)
  have hn : wpAny (model P w) A.in1 (PySem.call (.builtin "list.__new__") [.type "list", a]) (fun obj s1 => obj = .ref s.heap.objs.size ∧ s1 = { s with heap := s.heap.push { cls := .type "list", data := .seq #[] } }) Emp s := by
    refine wpAny_call (codeAny_mono (code_list_new (Q₁ := fun obj s1 => obj = .ref s.heap.objs.size ∧ s1 = { s with heap := s.heap.push { cls := .type "list", data := .seq #[] } }) (E := Emp) a ⟨rfl, rfl⟩) fun r s1 q => ?_)
    cases r with
    | error e => exact q
    | ok fl => cases fl <;> exact q
  refine wpG_bind (wpG_holding (wpG_mono (wpG_of hn) (fun obj s1 hq => ?_) fun _ _ z => z))
  obtain ⟨rfl, rfl⟩ := hq
  have hS : (s.heap.push { cls := .type "list", data := .seq #[] }).get? s.heap.objs.size = some { cls := .type "list", data := .seq #[] } := Heap.get?_push_size _ rfl
  have hT : ({ s with heap := s.heap.push { cls := .type "list", data := .seq #[] } } : Shared).TypeIs (.ref s.heap.objs.size) "list" := ⟨_, hS, rfl⟩
  refine wpG_bind (wpG_of (wpAny_isInstance (T := "list") (b := true) hT hsub ?_))
  rw [if_neg (by decide)]
  refine wpG_bind (wpG_holding ?_)
  simp only [callSpecial?]
  refine wpG_bind (wpG_of (wpAny_specialOf (name := Str.ofString "__init__") hT ft.init.lookup ?_))
  simp only [ft.init.bind]
  refine wpG_holding (wpG_bind (wpG_pure (wpG_bind (wpG_mono (wpG_slotA (Q := fun v s' => v = .none ∧ Q (.ref s.heap.objs.size) s') (rest := [a]) ft.init hT F.entry_list_init ?_ (F.args_list_init_2 _ _)) (fun v s' z => wpG_pure ?_) fun _ _ z => z))))
  · exact h
  · obtain ⟨rfl, q⟩ := z
    dsimp only
    rw [if_neg (by decide)]
    exact wpG_pure q
end
end NwG
end
section
/-! list(sorted_arrangements(x)). -/
namespace NwG
open PySem PySem.Spec PyProof.Rows L2 NwB NwM NdefX LamX StX Nw
/-- up to the loop -/
theorem list_prefix {P : Program} {w : World} {A : Around} {s : Shared} {S a : Addr} {g : Nat} (hS : s.heap.get? S = some { cls := .type "list", data := .seq #[] }) (hg : s.heap.IsGen a g) (hSa : S ≠ a) :
    wpAny (model P w) A (Builtin.«list.__init__» ⟨[.ref S, .ref a], []⟩) (fun fin s' => fin = .again (.builtin "list.extend.loop" ⟨[.ref S, .ref a, .none], []⟩) ∧ ∃ (h' : Heap) (m : Nat), s' = { s with heap := h' } ∧ Heap.SameBut S s.heap h' ∧ h'.get? S = some { cls := .type "list", data := .seq #[] m }) Emp s := by
  show wpAny _ A (do let old ← Builtin.List.listItems (.ref S); Builtin.List.listUpdate (.ref S) (fun _ => #[]); letGo old.toList.reverse; Builtin.List.listExtendWith (.ref S) (.ref a) .none) _ _ _
  refine wpAny_bind ?_
  unfold Builtin.List.listItems
  refine wpAny_bind (wpAny_seqItems hS rfl (wpAny_pure ?_))
  show wpAny _ A (updateSeq S (fun _ => #[]) >>= fun _ => letGo (#[] : Array Value).toList.reverse >>= fun _ => Builtin.List.listExtendWith (.ref S) (.ref a) .none) _ _ _
  refine wpAny_bind (wpAny_updateSeq hS rfl ?_)
  have hS2 := Heap.get?_update_self (Obj.mapSeq (fun _ => (#[] : Array Value))) hS rfl
  have b2 : Heap.SameBut S s.heap (s.heap.update S (Obj.mapSeq (fun _ => (#[] : Array Value)))) := Heap.SameBut.update ..
  refine wpAny_bind (wpAny_letGo ?_)
  unfold Builtin.List.listExtendWith
  have gty : ∀ {h : Heap}, Heap.SameBut S s.heap h → h.IsGen a g := fun {h} q => by
    obtain ⟨o, nm, qn, ho, r⟩ := hg
    exact ⟨o, nm, qn, (q.2 a (Ne.symm hSa)).trans ho, r⟩
  refine wpAny_bind (wpAny_typeOf (Heap.IsGen.typeIs (s := { s with heap := _ }) (gty b2)) ?_)
  have h1 : Builtin.List.listSameRef (.ref S) (.ref a) = false := by simp [Builtin.List.listSameRef, hSa]
  have h2 : (Value.type "generator" == Value.type "list") = false := by decide
  have h3 : (Value.type "generator" == Value.type "tuple") = false := by decide
  simp only [h1, h2, h3, Bool.or_false, Bool.false_eq_true, if_false]
  refine wpAny_bind (wpAny_pyIter_gen (s := { s with heap := _ }) (gty b2) ?_)
  refine wpAny_bind (wpAny_holding ?_)
  unfold Builtin.List.listLengthHint
  refine wpAny_bind (wpAny_specialOf (Heap.IsGen.typeIs (s := { s with heap := _ }) (gty b2)) F.gen_no_len ?_)
  show wpAny _ A (specialOf (Value.ref a) (Str.ofString "__length_hint__") >>= _) _ _ _
  refine wpAny_bind (wpAny_specialOf (Heap.IsGen.typeIs (s := { s with heap := _ }) (gty b2)) F.gen_no_hint ?_)
  refine wpAny_pure ?_
  show wpAny _ A (rule "list.extend.makes-room" >>= fun _ => Builtin.List.listTouch (.ref S) >>= fun _ => again (.builtin "list.extend.loop" ⟨[.ref S, .ref a, .none], []⟩)) _ _ _
  refine wpAny_bind (wpAny_rule ?_)
  refine wpAny_bind ?_
  show wpAny _ A (updateSeq S (·.push .none) >>= fun _ => updateSeq S (·.pop)) _ _ _
  refine wpAny_bind (wpAny_updateSeq hS2 rfl ?_)
  have hS3 := Heap.get?_update_self (Obj.mapSeq (·.push Value.none)) hS2 rfl
  refine wpAny_updateSeq (hz := by seq_fits) hS3 rfl ?_
  have hS4 := Heap.get?_update_self (Obj.mapSeq (·.pop)) hS3 rfl
  have b4 := (b2.trans (Heap.SameBut.update (s.heap.update S (Obj.mapSeq (fun _ => (#[] : Array Value)))) S (Obj.mapSeq (·.push Value.none)))).trans (Heap.SameBut.update _ S (Obj.mapSeq (·.pop)))
  exact wpAny_pure ⟨rfl, _, _, rfl, b4, hS4⟩
/-- type(..) called: the arguments quiet -/
theorem wpG_callWith_type {P : Program} {w : World} {A : Around} {s : Shared} {T : String} {env : Env} {pos : Pos} {e : Expr} {rest : List Expr} {Q : Value → Shared → Prop} (h : wpAny (model P w) A (spliced (backTo pos (starEach (e :: rest) env))) (fun vs s₁ => wpG (model P w) A (PySem.call (.type T) vs) Q Emp s₁) Emp s)
    (he : starEach (e :: rest) env = (false, eval e env) :: starEach rest env) (hplain : (backTo pos (starEach rest env)).any (·.1) = false) : wpG (model P w) A (callWith pos (.type T) [] (backTo pos (starEach (e :: rest) env)) []) Q Emp s := by
  rw [he] at h ⊢
  have hpl : (backTo pos ((false, eval e env) :: starEach rest env)).any (·.1) = false := by
    show (false || (backTo pos (starEach rest env)).any (·.1)) = false
    rw [hplain]; rfl
  have h2 : wpAny (model P w) A (evalArgs (.type T) true (backTo pos ((false, eval e env) :: starEach rest env)) []) (fun a s₁ => a.kw = [] ∧ wpG (model P w) A (PySem.call (.type T) ([] ++ a.pos) a.kw) Q Emp s₁) Emp s :=
    Calls.evalArgs_plain (wpAny_mono h (fun vs s1 q => ⟨rfl, q⟩) fun _ _ z => z)
  unfold callWith
  refine wpG_bind (wpG_holding (wpG_mono (wpG_of h2) (fun a s₁ h₁ => ?_) fun _ _ z => z))
  refine wpG_bind (wpG_of (wpAny_standAt ?_))
  simp only [hpl, List.any_nil, Bool.or_false]
  refine wpG_bind (wpG_pure ?_)
  exact wpG_bind (wpG_mono h₁.2 (fun r s₂ hr => wpG_bind (wpG_holding (wpG_of (wpAny_point (wpG_pure hr))))) fun _ _ z => z)
theorem funs_lt {base : Heap} {h : Heap} : ∀ {l : List Env}, h.FunFrames base l → ∀ b ∈ frs l, b < h.objs.size
  | [], _, b, hb => by simp [frs] at hb
  | env :: r, ⟨_, ⟨L, o, hf, _, ho, _⟩, hr⟩, b, hb => by
    unfold frs at hb
    rw [List.filterMap_cons, hf] at hb
    rcases List.mem_cons.mp hb with rfl | hb
    · exact Heap.lt_size ho
    · exact funs_lt hr b hb
theorem Kp.refl {T : List NTab} {H : Hp} : Kp T H [] H := ⟨fun _ _ _ h _ => h, fun _ ps _ h => ⟨#[], by rw [h]; simp⟩, fun t => t, fun _ _ _ h => h⟩
/-- a list of these lists -/
def LV (H : Hp) (S : Addr) (all : List (List V)) : Prop := ∃ es : List Addr, H S = some (.lst (es.map V.ref)) ∧ es.length = all.length ∧ ∀ (i : Nat) (b : Addr) (L : List V), es[i]? = some b → all[i]? = some L → H b = some (.lst L)
def tSorL (K : PySem.W.Frag) (Pt : Addr) (t : TA) : TE := fun σ H Q => t σ H fun vs H1 => ∃ (a0 : Addr) (W : Nat) (st : List Nat), vs = [.ref a0] ∧ Net K H1 a0 W st ∧ OkN W st ∧ W ≤ 6 ∧ TabsN (tA Pt) H1 ∧ ∀ (H' : Hp) (S : Addr), Kp (tA Pt) H1 [] H' → LV H' S (toV (srtd W st)) → Q (.ref S) H'
end NwG
end
section
/-! list(sorted_arrangements(x)): the rule. -/
namespace NwG
open PySem PySem.Spec PyProof.Rows L2 NwB NwM NdefX LamX StX Nw
section
variable {X : Cx} {cA Pt : Addr}
/-- the call: a generator that has not begun -/
theorem sor_call (hx : NoX X) (t : Tx X.K X.mg X.base) {e : Expr} {ta : TA} {p2 p4 : Pos} (ha : PA X [e] ta) (hg : Gl X "sorted_arrangements") (hr : Room 1 X.A) (hst : starEach [e] X.env = (false, eval e X.env) :: starEach [] X.env) {pins : List (Addr × Obj)} {s : Shared} {σ : L2.St} {H : Hp} {Q : List V → Hp → Prop} (I : Inv X pins σ H s)
    (q : ta σ H Q) (hQ : ∀ vs H1, Q vs H1 → ∃ a0, vs = [.ref a0]) :
    wpAny (model X.prog X.w) X.A (eval (.Call (.Name "sorted_arrangements" p2) [e] [] p4) X.env) (fun u s' => ∃ (a0 a : Addr) (g : Nat) (H1 : Hp) (cd : Value) (oa : Obj) (s2 s1 : Shared), u = .ref a ∧ Q [.ref a0] H1 ∧ Inv X pins σ H1 s2 ∧ GMd X pins σ H1 s2 nS "sorted_arrangements" scSor (bSor pS) (He.ga X.K "sorted_arrangements") cd [.ref a0] a g oa s1 s') Emp s := by
  obtain ⟨fd, F0⟩ := t.c.def_ 35 (d := d_sorted_arrangements) rfl
  have F : FunD X.K "sorted_arrangements" "sorted_arrangements" d_sorted_arrangements.params (bSor pS) scSor [] [] (He.ga X.K "sorted_arrangements") fd := F0
  have hbd : ∀ (s : Shared) (u : Value), BindsTo s fd ⟨[u], []⟩ (([("network" : PySem.Str)]).zip [u]) := fun s u => F.bindsA (ps := [("network" : PySem.Str)]) (fun kV doc pm an cdv ct us hl => match us, hl with | [_], _ => rfl) s [u] rfl
  refine wpAny_Call_Name_kw (ld_glob I hg (t.g 30 : X.mg "sorted_arrangements" = some (.ref (He.ga X.K "sorted_arrangements"))) ?_)
  refine PySem.W.callWith_K (h₀ := X.base) I.ok.mod.kin F.kp (wpAny_mono (ha.run p4 pins s σ H Q I q) (fun us s2 ⟨vs, H1, J, r1, q1⟩ => ⟨J.kIn, ?_⟩) fun _ _ z => (hx _ _ z).elim) hst (by rfl)
  obtain ⟨a0, rfl⟩ := hQ vs H1 q1
  obtain ⟨uu, rfl, ru⟩ := vals1 r1
  refine thn (gen_call F scS (hbd s2 uu) (.cons ru .nil) rfl J hr.depth hr.hd (fun n y c h => by rw [cellsS] at h; simp at h)) fun u s' hu => ?_
  obtain ⟨cd, a, g, oa, s1, _, eu, m⟩ := hu
  exact ⟨a0, a, g, H1, cd, oa, s2, s1, eu, q1, J, m⟩
theorem flat_len {α β : Type} {f : α → List β} {m : Nat} : ∀ {l : List α}, (∀ x, (f x).length ≤ m) → (l.flatMap f).length ≤ l.length * m
  | [], _ => by simp
  | x :: l, h => by
    rw [List.flatMap_cons, List.length_append, List.length_cons, Nat.succ_mul]
    have := flat_len (l := l) h
    have := h x
    omega
theorem arr_count (W : Nat) : ∀ (d : Nat) (beg : List Int), (arr W d beg).length ≤ W ^ d
  | 0, beg => by simp [arr]
  | d + 1, beg => by
    rw [Nat.pow_succ, Nat.mul_comm]
    have h : (arr W (d + 1) beg).length ≤ (List.range W).length * W ^ d := flat_len (f := fun (i : Nat) => if (1 + (i : Int)) ∈ beg then [] else arr W d (beg ++ [1 + (i : Int)])) fun i => by
      split
      · simp
      · exact arr_count W d _
    rw [List.length_range] at h
    exact h
theorem room_in3 {k : Nat} {A : Around} (hr : Room (k + 1) A) : Room k A.in1.in1.in1 := by
  refine ⟨hr.hd, ?_, ?_⟩
  · have := hr.dp
    show A.depth + 3 * k + 5 < _
    omega
  · have := hr.un
    show A.units + 1 + 1 + 1 + 16 * k + 200 < _
    omega
theorem qe_listSor (hx : NoX X) (t : Tx X.K X.mg X.base) (tb : TabB X.base X.mg cA Pt) (hcA : (He.cT X.K defA).1 = cA) (hex : X.ex = []) (hr : Room 21 X.A) {e : Expr} {ta : TA} {p1 p2 p4 p5 : Pos} (ha : PA X [e] ta) (hg : Gl X "sorted_arrangements") (hgl : Gl X "list")
    (hst : starEach [e] X.env = (false, eval e X.env) :: starEach [] X.env := by rfl) (hst2 : starEach [.Call (.Name "sorted_arrangements" p2) [e] [] p4] X.env = (false, eval (.Call (.Name "sorted_arrangements" p2) [e] [] p4) X.env) :: starEach [] X.env := by rfl) :
    QE X (.Call (.Name "list" p1) [.Call (.Name "sorted_arrangements" p2) [e] [] p4] [] p5) (tSorL X.K Pt ta) := by
  refine ⟨fun pins s σ H Q I hq => ?_⟩
  rw [arm_eval_Call_Name']
  refine wpG_bind (wpG_of (ld_blt I hgl t.list boot_list ?_))
  refine wpG_callWith_type ?_ hst2 (by rfl)
  rw [hst2]
  show wpAny _ _ (spliced ((false, eval (.Call (.Name "sorted_arrangements" p2) [e] [] p4) X.env) :: backTo p5 (starEach [] X.env))) _ _ s
  refine Calls.spliced_cons (wpAny_mono (sor_call hx t ha hg (hr.mono (by decide)) hst I hq fun vs H1 ⟨a0, _, _, z, _⟩ => ⟨a0, z⟩) (fun u s3 hu => ?_) fun _ _ z => z)
  refine Calls.spliced_nil ?_
  obtain ⟨a0, a, g, H1, cd, oa, s2, s1, rfl, ⟨a0', W, st, e0, net, ok, hW, tabs, hQ⟩, I2, m⟩ := hu
  have e1 : a0 = a0' := by injection e0 with e1 _; injection e1
  subst e1
  obtain ⟨dx, tp, n1, n2⟩ := id net
  -- the generator's frame
  have hf := m.objs s2.heap.objs.size List.mem_cons_self
  obtain ⟨_, on, hon1, hon3⟩ := hf
  have lt2 : s2.heap.objs.size < s3.heap.objs.size := Heap.lt_size hon3
  have hH1n : ∀ b, s2.heap.objs.size ≤ b → H1 b = none := fun b hb => I2.hok.fresh hb
  have hH1a : H1 a = none := hH1n a (Nat.le_of_lt m.ale)
  have la : a < s3.heap.objs.size := by obtain ⟨o, _, _, ho, _⟩ := m.is_; exact Heap.lt_size ho
  have kp3 : ∀ b o, H1 b = some o → upd (tell (frL s2.heap.objs.size scSor) s1.heap H1) a (XO a oa) b = some o := fun b o h => by
    rw [upd_ne (ne_of_none h hH1a), tell_out fun z => ?_]
    · exact h
    · rw [hH1n b (m.objs b z).1] at h; cases h
  refine wpG_list1 ?_
  have hSg : s3.heap.objs.size ≠ a := Nat.ne_of_gt la
  have hS : (s3.heap.push { cls := .type "list", data := .seq #[] }).get? s3.heap.objs.size = some { cls := .type "list", data := .seq #[] } := Heap.get?_push_size _ rfl
  have hg3 : (s3.heap.push { cls := .type "list", data := .seq #[] }).IsGen a g := m.is_.keeps fun b o h => Heap.get?_push_of_some _ h
  refine wpG_mono (wpG_of (list_prefix (s := { s3 with heap := s3.heap.push { cls := .type "list", data := .seq #[] } }) hS hg3 hSg)) (fun fin s4 hfin => ?_) fun _ _ z => z
  obtain ⟨rfl, h4, nn, rfl, sb, hS4⟩ := hfin
  have k4 : ∀ b o, s3.heap.get? b = some o → h4.get? b = some o := fun b o h => (sb.2 b (Nat.ne_of_lt (Heap.lt_size h))).trans (Heap.get?_push_of_some _ h)
  have hH2S : ∀ b, s3.heap.objs.size ≤ b → upd (tell (frL s2.heap.objs.size scSor) s1.heap H1) a (XO a oa) b = none := fun b hb => m.inv.hok.fresh hb
  have J4 : Inv X pins σ (upd (upd (tell (frL s2.heap.objs.size scSor) s1.heap H1) a (XO a oa)) s3.heap.objs.size (.lst [])) { s3 with heap := h4 } :=
    m.inv.laid (t' := s3.toks) k4 (Nat.le_refl _) ⟨Nat.zero_le _, [], nn, .nil, hS4⟩
  have hn2S : s2.heap.objs.size ≠ s3.heap.objs.size := Nat.ne_of_lt lt2
  have kp4 : Kp (tA Pt) H1 [] (upd (upd (tell (frL s2.heap.objs.size scSor) s1.heap H1) a (XO a oa)) s3.heap.objs.size (.lst [])) := Kp.refl.full fun b o h => by
    rw [upd_ne (ne_of_none h (hH1n _ (Nat.le_of_lt lt2)))]; exact kp3 b o h
  have hna : s2.heap.objs.size ≠ a := Nat.ne_of_lt m.ale
  have hon4 : upd (upd (tell (frL s2.heap.objs.size scSor) s1.heap H1) a (XO a oa)) s3.heap.objs.size (.lst []) s2.heap.objs.size = some (XO s2.heap.objs.size on) := by
    rw [upd_ne hn2S, upd_ne hna, tell_in List.mem_cons_self hon1]
  have bare3 : AllBare s3.gens := m.inv.bare
  have C : CG X { s3 with heap := h4 } (fun i => i = g) g (.fresh (.func (bSor pS) (envS (He.ga X.K "sorted_arrangements") s2.heap.objs.size cd))) [] pins σ (upd (upd (tell (frL s2.heap.objs.size scSor) s1.heap H1) a (XO a oa)) s3.heap.objs.size (.lst [])) { s3 with heap := h4 } :=
    ⟨inv_bare (T' := s3.gens) J4 AllBare.empty, ⟨Nat.le_refl _, fun i x h _ _ => h, fun i x h => .inl (bare3 x (Array.mem_of_getElem? h))⟩, m.at_, fun _ z => by simp at z, fun _ z => by simp at z, .inl rfl, fun _ z => by simp at z, Nat.le_refl _⟩
  have fr_ok : ∀ b ∈ frs X.stack, b < s2.heap.objs.size := funs_lt (I2.env0).funs
  have geo : Geo X (Cxgp (xS X.prog X.w X.K X.mg X.base (He.ga X.K "sorted_arrangements") cd s X.A.in1.in1.in1 X.stack s2.heap.objs.size) X.A.in1.in1.in1 g (shS X.K Pt a0 W st) (tA Pt)) pins := by
    refine ⟨rfl, rfl, rfl, rfl, rfl, rfl, I2.ok.frames, hex, I2.lt, fun y c h => ?_, fun q hq => ?_⟩
    · obtain ⟨v, o, ho, _⟩ := I2.cell y c h
      exact Heap.lt_size ho
    · exact Heap.lt_size (I2.pin q hq).1
  have so : SoS X.prog X.w X.K X.mg X.base cA Pt W st := ⟨t, I2.ok.mod, tb, ok, hW, hcA⟩
  have hsl : Sleep (Cxgp (xS X.prog X.w X.K X.mg X.base (He.ga X.K "sorted_arrangements") cd s X.A.in1.in1.in1 X.stack s2.heap.objs.size) X.A.in1.in1.in1 g (shS X.K Pt a0 W st) (tA Pt)) (toV (srtd W st)) (fun _ _ => False) [(s2.heap.objs.size, XO s2.heap.objs.size on)] [] (.fresh (.func (bSor pS) (envS (He.ga X.K "sorted_arrangements") s2.heap.objs.size cd))) :=
    sor_sleep (s0 := s) so m.st rfl rfl (fun b hb => by rw [List.mem_singleton.mp hb]; exact ⟨on, hon1, List.mem_cons_self⟩) (room_in3 (hr.mono (show 2 * W + 8 + 1 ≤ 21 by omega))) I2.ok.frames (Nat.le_trans I2.ok.bsz (Nat.le_trans I2.ok.above (Nat.le_of_lt I2.lt))) fr_ok
  have hcnt : (toV (srtd W st)).length ≤ 100000 := by
    rw [List.length_map]
    have h1 : (srtd W st).length ≤ (arr W W []).length := List.length_filter_le _ _
    have h2 := arr_count W W []
    have h3 : W ^ W ≤ 6 ^ 6 := Nat.le_trans (Nat.pow_le_pow_left hW _) (Nat.pow_le_pow_right (by decide) hW)
    have h4 : 6 ^ 6 ≤ 100000 := by decide
    omega
  refine ⟨plainId_quiet F.plain_extend_loop _, ?_⟩
  refine drain_G (B := X.A.in1) (S := s3.heap.objs.size) (a := a) (oa := oa) (H0 := H1) geo rfl hr.hd (by have := hr.dp; show X.A.depth < _; omega) (Int.le_of_eq m.mz) (fun h H k => ⟨k.tab tabs, dx, tp, k.ext _ _ (.inr fun _ z => nomatch z) n1 (fun _ z => by simp at z), k.ext _ _ (.inr fun _ z => nomatch z) n2 (fun _ z => by simp at z)⟩) rfl rfl (all := toV (srtd W st)) hcnt
    (fun H' s' es I' k1 k2 k3 k4 => ?_) (toV (srtd W st)) [] (fun _ _ => False) [(s2.heap.objs.size, XO s2.heap.objs.size on)] _ [] _ _ [] rfl ⟨C, ⟨?_, m.obj, fun q hq => ?_, fun q hq => ?_, fun q hq => ?_⟩, kp4, fun q hq => ?_, hH1n _ (Nat.le_of_lt lt2), hSg, fun q hq => ?_, upd_same, rfl, fun i b L h1 _ => by simp at h1⟩ (fun _ _ z => z.elim) hsl
  · refine ⟨rfl, ?_⟩
    have bare' : AllBare s'.gens := fun x hx2 => by
      obtain ⟨i, hi⟩ := Array.mem_iff_getElem?.mp hx2
      rcases I'.gt.bare i x hi with z | ⟨z, _⟩ | ⟨_, z, _⟩
      · exact z
      · exact bare3 x (Array.mem_of_getElem? z)
      · simp at z
    exact ⟨.ref s3.heap.objs.size, H', inv_bare (s := s') (T' := #[]) (T := s'.gens) I'.inv bare', rfl, hQ H' _ k1 ⟨es, k2, k3, k4⟩⟩
  · rw [upd_ne (Ne.symm hSg)]; exact upd_same
  · rw [List.mem_singleton.mp hq]; exact hon4
  · rw [List.mem_singleton.mp hq]; trivial
  · rw [List.mem_singleton.mp hq]; exact hna
  · rcases List.mem_cons.mp hq with rfl | hq
    · exact hH1a
    · rw [List.mem_singleton.mp hq]; exact hH1n _ (Nat.le_refl _)
  · rw [List.mem_singleton.mp hq]; exact hn2S
end
end NwG
end
section
/-! Lists of lists as data; what list(sorted_arrangements(x)) leaves. -/
namespace NwG
open PySem PySem.Spec PyProof.Rows L2 NwB NwM NdefX LamX StX Nw
/-- objects other than tables stand, the tables stay told -/
def Wk (T : List NTab) (H H' : Hp) : Prop := (TabsN T H → TabsN T H') ∧ ∀ a o, (∀ ps, o ≠ .tbl ps) → H a = some o → H' a = some o
theorem Wk.trans {T : List NTab} {H H' H'' : Hp} (a : Wk T H H') (b : Wk T H' H'') : Wk T H H'' := ⟨fun t => b.1 (a.1 t), fun x o n h => b.2 x o n (a.2 x o n h)⟩
theorem Wk.refl {T : List NTab} {H : Hp} : Wk T H H := ⟨fun t => t, fun _ _ _ h => h⟩
theorem wk_same {T : List NTab} {H H' : Hp} (s : Same H H') : Wk T H H' := ⟨fun t => t.ext s, fun a o _ h => s a o h⟩
theorem wk_kp {T : List NTab} {H H' : Hp} (k : Kp T H [] H') : Wk T H H' := ⟨k.tab, fun a o n h => k.ext a o (.inr n) h (by simp)⟩
theorem Wk.lst {T : List NTab} {H H' : Hp} (k : Wk T H H') {a : Addr} {xs : List V} (h : H a = some (.lst xs)) : H' a = some (.lst xs) := k.2 _ _ (fun _ z => nomatch z) h
theorem Wk.net {T : List NTab} {H H' : Hp} (k : Wk T H H') {K : PySem.W.Frag} {a : Addr} {W : Nat} {st : List Nat} (n : Net K H a W st) : Net K H' a W st := let ⟨dx, t, h1, h2⟩ := n; ⟨dx, t, k.2 _ _ (fun _ z => nomatch z) h1, k.2 _ _ (fun _ z => nomatch z) h2⟩
theorem Wk.li {T : List NTab} {H H' : Hp} (k : Wk T H H') {p : Addr} {Ls : List (List Int)} (l : LI H p Ls) : LI H' p Ls := let ⟨as, h1, h2, h3⟩ := l; ⟨as, k.lst h1, h2, fun i a L ha hL => k.lst (h3 i a L ha hL)⟩
theorem li_same {H H' : Hp} (k : Same H H') {p : Addr} {Ls : List (List Int)} (l : LI H p Ls) : LI H' p Ls := let ⟨as, h1, h2, h3⟩ := l; ⟨as, k _ _ h1, h2, fun i a L ha hL => k _ _ (h3 i a L ha hL)⟩
theorem li_lv {H : Hp} {S : Addr} {Ls : List (List Int)} (h : LV H S (toV Ls)) : LI H S Ls := by
  obtain ⟨es, h1, h2, h3⟩ := h
  refine ⟨es, h1, by rw [h2, List.length_map], fun i a L ha hL => h3 i a _ ha ?_⟩
  rw [List.getElem?_map, hL]
  rfl
theorem li_nil {H : Hp} {D : Addr} (h : H D = some (.lst [])) : LI H D [] := ⟨[], h, rfl, fun i a L ha => by simp at ha⟩
/-- one more -/
theorem li_snoc {H : Hp} {D a : Addr} {Ls : List (List Int)} {L : List Int} (l : LI H D Ls) (ha : H a = some (.lst (iV L))) (hne : a ≠ D) (hl : Ls.length < sizeLine) :
    ∃ acc, H D = some (.lst acc) ∧ acc.length < sizeLine ∧ LI (upd H D (.lst (acc ++ [.ref a]))) D (Ls ++ [L]) := by
  obtain ⟨as, h1, h2, h3⟩ := l
  refine ⟨as.map V.ref, h1, by rw [List.length_map, h2]; exact hl, as ++ [a], ?_, by rw [List.length_append, List.length_append, h2]; rfl, fun i b M hb hM => ?_⟩
  · rw [upd_same, List.map_append]; rfl
  · rcases Nat.lt_or_ge i as.length with c | c
    · rw [List.getElem?_append_left c] at hb
      rw [List.getElem?_append_left (by omega)] at hM
      have q := h3 i b M hb hM
      rw [upd_ne fun z => ?_]
      · exact q
      · rw [z, h1] at q
        have q : as.map V.ref = iV M := by injection (Option.some.inj q)
        cases as with
        | nil => simp at c
        | cons x r => cases M with
          | nil => cases q
          | cons y s => cases q
    · rw [List.getElem?_append_right c] at hb
      rw [List.getElem?_append_right (by omega)] at hM
      rcases e : i - as.length with _ | n
      · rw [e] at hb
        rw [← h2, e] at hM
        obtain rfl : a = b := by simpa using hb
        obtain rfl : L = M := by simpa using hM
        rw [upd_ne hne]
        exact ha
      · rw [e] at hb
        simp at hb
/-! ### data -/
def liD (L : List Int) : PyData := .list (L.map PyData.int)
theorem dpa_of {K : PySem.W.Frag} {H : Hp} : ∀ {as : List Addr} {Ls : List (List Int)}, as.length = Ls.length → (∀ (i : Nat) (a : Addr) (L : List Int), as[i]? = some a → Ls[i]? = some L → H a = some (.lst (iV L))) → DpAll K H (as.map V.ref) (Ls.map liD)
  | [], [], _, _ => .nil
  | [], _ :: _, h, _ => by simp at h
  | _ :: _, [], h, _ => by simp at h
  | a :: as, L :: Ls, h, q => .cons (.lst (SqL.of (q 0 a L rfl rfl)) (dp_ints L)) (dpa_of (by simpa using h) fun i b M hb hM => q (i + 1) b M hb hM)
theorem dp_li {K : PySem.W.Frag} {H : Hp} {p : Addr} {Ls : List (List Int)} (l : LI H p Ls) : Dp K H (.ref p) (.list (Ls.map liD)) := let ⟨as, h1, h2, h3⟩ := l; .lst (SqL.of h1) (dpa_of h2 h3)
theorem lis_lay : ∀ Ls : List (List Int), PyData.canLayAll0 (Ls.map liD) = true
  | [] => rfl
  | L :: r => by simp [PyData.canLayAll0, liD, PyData.canLay0, PySem.W.ke_canLayAll0, lis_lay r]
theorem lis_depth : ∀ Ls : List (List Int), PyData.depthAll (Ls.map liD) ≤ 1
  | [] => by simp [PyData.depthAll]
  | L :: r => by
    have := lis_depth r
    simp only [List.map_cons, PyData.depthAll, liD, PyData.depth, PySem.W.ke_depthAll]
    omega
theorem shaped_lis (Ls : List (List Int)) : SeqAt.shaped (.list (Ls.map liD)) = true := by
  have h1 := lis_depth Ls
  have h2 : PyData.depth (.list (Ls.map liD)) ≤ 64 := by
    simp only [PyData.depth]
    omega
  show (PyData.canLay0 (.list (Ls.map liD)) && decide (PyData.depth (.list (Ls.map liD)) ≤ 64)) = true
  rw [Bool.and_eq_true]
  exact ⟨by simp only [PyData.canLay0]; exact lis_lay Ls, decide_eq_true h2⟩
theorem eqv_intsAll : ∀ L M : List Int, PyData.eqvAll (L.map PyData.int) (M.map PyData.int) = decide (L = M)
  | [], [] => by simp [PyData.eqvAll]
  | [], _ :: _ => by simp [PyData.eqvAll]
  | _ :: _, [] => by simp [PyData.eqvAll]
  | a :: r, b :: t => by
    simp only [List.map_cons, PyData.eqvAll, PyData.eqv, eqv_intsAll r t]
    by_cases h : a = b <;> by_cases h' : r = t <;> simp [h, h']
theorem liD_eqv (L M : List Int) : PyData.eqv (liD L) (liD M) = decide (L = M) := by
  show PyData.eqv (.list _) (.list _) = _
  simp only [PyData.eqv]
  exact eqv_intsAll L M
theorem any_lis (Ls : List (List Int)) (L : List Int) : ((Ls.map liD).any fun z => PyData.eqv z (liD L)) = decide (L ∈ Ls) := by
  rw [Bool.eq_iff_iff, List.any_eq_true]
  simp only [List.mem_map, decide_eq_true_eq]
  constructor
  · rintro ⟨_, ⟨M, hM, rfl⟩, h⟩
    rw [liD_eqv] at h
    exact of_decide_eq_true h ▸ hM
  · intro h
    exact ⟨_, ⟨L, h, rfl⟩, by rw [liD_eqv]; simp⟩
end NwG
end
section
/-! [x for x in rows if ..] over a list of lists. -/
namespace NwG
open PySem PySem.Spec PyProof.Rows L2 NwB NwM NdefX LamX StX Nw
theorem li_sq {K : PySem.W.Frag} {H : Hp} {p : Addr} {Ls : List (List Int)} (l : LI H p Ls) : ∃ xs, SqL K H p xs := let ⟨as, h1, _⟩ := l; ⟨_, SqL.of h1⟩
theorem lc_li {K : PySem.W.Frag} {S : Addr} {Ls : List (List Int)} {g : L2.TG} {tt : TT} {te : TE} {vs : List Nat} {σ : L2.St} {H1 : Hp} {D : Addr} {Qd : Hp → Prop} (p : List Int → Bool) (hS : LI H1 S Ls) (hD : H1 D = none) (hn : Ls.length ≤ 100000)
    (hs : ∀ (a : Addr) (L : List Int) (H' : Hp) (Rt : V → Hp → Prop) (Rf : Hp → Prop), L ∈ Ls → Same H1 H' → H' a = some (.lst (iV L)) → (∀ H3, Same H' H3 → p L = true → Rt (.ref a) H3) → (∀ H3, Same H' H3 → p L = false → Rf H3) →
      g (.ref a) (wipe σ vs) H' fun σ2 H2 => wipe σ2 vs = wipe σ vs ∧ tt σ2 H2 fun b H3 => if b = true then te σ2 H3 Rt else Rf H3)
    (hd : ∀ H', Same H1 H' → LI H' D (Ls.filter p) → Qd H') :
    ∃ W : Nat → Nat → Hp → Prop, (∃ m, W 0 m (upd H1 D (.lst []))) ∧ ∀ i m H, W i m H →
      ((Itl K S).stop i H ∧ Qd H) ∨ ((Itl K S).go i H ∧ ∃ Nx : Hp → Prop, (∀ H', Nx H' → ∃ m', m' < m ∧ W (i + 1) m' H') ∧ ∀ x H', (Itl K S).yld i H x H' → g x (wipe σ vs) H' fun σ2 H2 => wipe σ2 vs = wipe σ vs ∧ tt σ2 H2 fun b H3 =>
        if b = true then te σ2 H3 fun y H4 => ∃ acc, H4 D = some (.lst acc) ∧ acc.length < sizeLine ∧ Nx (upd H4 D (.lst (acc ++ [y]))) else Nx H3) := by
  obtain ⟨as, h1, h2, h3⟩ := hS
  refine lc_list (xs := as.map V.ref) (fun i H' => Same H1 H' ∧ LI H' D ((Ls.take i).filter p)) ⟨same_new hD, li_nil upd_same⟩ (fun i H' _ ⟨b, _⟩ => SqL.of (b _ _ h1)) (fun i x H' hx ⟨b, l⟩ => ?_) (fun H' ⟨b, l⟩ => ?_)
  · have hi : i < as.length := by
      have := (List.getElem?_eq_some_iff.mp hx).1
      simpa using this
    have hi2 : i < Ls.length := by omega
    rw [List.getElem?_map, List.getElem?_eq_getElem hi] at hx
    obtain rfl := (Option.some.inj hx).symm
    have ha := b _ _ (h3 i as[i] Ls[i] (List.getElem?_eq_getElem hi) (List.getElem?_eq_getElem hi2))
    have et : Ls.take (i + 1) = Ls.take i ++ [Ls[i]] := List.take_succ_eq_append_getElem hi2
    refine hs as[i] Ls[i] H' _ _ (List.getElem_mem hi2) b ha (fun H3 s3 z => ?_) (fun H3 s3 z => ?_)
    · have hne : as[i] ≠ D := ne_of_none (h3 i as[i] Ls[i] (List.getElem?_eq_getElem hi) (List.getElem?_eq_getElem hi2)) hD
      have hsz : ((Ls.take i).filter p).length < sizeLine := by
        have q1 : ((Ls.take i).filter p).length ≤ (Ls.take i).length := List.length_filter_le _ _
        rw [List.length_take] at q1
        have q2 : 100000 < sizeLine := by decide
        omega
      obtain ⟨acc, e1, e2, e3⟩ := li_snoc (li_same s3 l) (s3 _ _ ha) hne hsz
      refine ⟨acc, e1, e2, fun a o hh => (upd_ne (ne_of_none hh hD)).trans (s3 _ _ (b a o hh)), ?_⟩
      rw [et, List.filter_append, List.filter_cons_of_pos z, List.filter_nil]
      exact e3
    · refine ⟨b.trans s3, ?_⟩
      rw [et, List.filter_append, List.filter_cons_of_neg (by rw [z]; decide), List.filter_nil, List.append_nil]
      exact li_same s3 l
  · rw [List.length_map, h2, List.take_length] at l
    exact hd H' b l
end NwG
end
section
/-! _law_small_holds. -/
namespace NwG
open PySem PySem.Spec PyProof.Rows L2 NwB NwM NdefX LamX StX Nw ClX
abbrev nmM : List PySem.Str := ["_law_width", "_law_first", "_law_second_here", "_law_one", "_law_two", "_law_expected", "_law_rows", "_law_others", "_law_bits_here", "_law_row"]
section
variable {P : Program} {w : World} {K : PySem.W.Frag} {mg : PySem.Str → Option Value} {base : Heap} {cA Pt : Addr}
def spSmall (Pt : Addr) : Sp := fun vs H Q _ => ∃ (f g : Addr) (W : Nat) (st st' : List Nat), vs = [.int (W : Nat), .ref f, .ref g] ∧ H f = some (.lst (nV st)) ∧ H g = some (.lst (nV st')) ∧ OkN W st ∧ OkN W st' ∧ W ≤ 5 ∧ TabsN (tA Pt) H ∧ ∀ H', Wk (tA Pt) H H' → Q (.bl true) H'
theorem g_small (t : Tx K mg base) (tb : TabB base mg cA Pt) (hcA : (He.cT K defA).1 = cA) {fd : FuncData} (F : FunD K d_law_small_holds.name d_law_small_holds.qual d_law_small_holds.params d_law_small_holds.body d_law_small_holds.scope [] [] (d_law_small_holds.at_ K) fd) :
    FnG P w K mg base 22 (d_law_small_holds.at_ K) fd ["_law_width", "_law_first", "_law_second_here"] (spSmall Pt) := by
  have S : FnScope nmM ["_law_width", "_law_first", "_law_second_here"] d_law_small_holds.scope := ⟨rfl, rfl, rfl, by decide +kernel, rfl, by decide +kernel, by decide +kernel⟩
  have G1 : Okd P w K mg base 21 d_dominates ["first", "second"] (spDom K) := okd_mono (ok_dominates t) (by decide)
  have G2 : Okd P w K mg base 21 d_sorts ["network", "values"] (spSorts K) := okd_mono (ok_sorts t) (by decide)
  have G3 : Okd P w K mg base 21 d_hardest ["network"] (spHard K) := okd_mono (ok_hardest t) (by decide)
  have G4 : Okd P w K mg base 21 d_law_limits_hold ["_law_one", "_law_two"] (spLimH K) := okd_mono (ok_law_limits_hold t) (by decide)
  have G5 : Okd P w K mg base 21 d_law_all_bits ["_law_width", "_law_first", "_law_second_here"] spAllB := okd_mono (ok_law_all_bits t) (by decide)
  have G6 : Okd P w K mg base 21 d_law_bits ["_law_width"] spBits := okd_mono (ok_law_bits t) (by decide)
  have G7 : Okd P w K mg base 21 d_count_sorted ["network"] (spCount K) := okd_mono (ok_count_sorted t) (by decide)
  refine fn_ofG F S (fun vs H Q E h => ?_) fun cdv A outer s H vs Q E hr e0 h => ?_
  · obtain ⟨_, _, _, _, _, rfl, _⟩ := h
    rfl
  · obtain ⟨f, g, W, st, st', rfl, hf, hg, ok, ok', hW, tabs, hq⟩ := h
    have hx : NoX (cxOf CX0 P w K mg base nmM d_law_small_holds.qual d_law_small_holds.scope (d_law_small_holds.at_ K) cdv A outer s H E).nox := fun _ _ z => z
    have hu65 : (A.deeper (envOfC d_law_small_holds.qual d_law_small_holds.scope s.heap.objs.size (d_law_small_holds.at_ K) cdv)).units + 65 < cLine := by
      have := hr.un
      omega
    refine ⟨_, qss_cons (qs_of hx (ps_asg (pe_tup (pa_cons (pe_mk t (Room.mono (k := 21) hr (by decide)) (by rfl) (pa_cons (pv 0) (pa_cons (pv 1) pa_nil))) (pa_cons (pe_mk t (Room.mono (k := 21) hr (by decide)) (by rfl) (pa_cons (pv 0) (pa_cons (pv 2) pa_nil))) pa_nil))) (pg_tup (by rfl) (pgs_cons (pg_name (i := 3) S.nd rfl (Or.inr rfl)) (pgs_cons (pg_name (i := 4) S.nd rfl (Or.inr rfl)) pgs_nil)))))
      (qss_cons (qs_of hx (ps_set (i := 5) S.nd rfl (Or.inl rfl) (pe_cl G5 hr (by rfl) (t.g 37) (pa_cons (pv 0) (pa_cons (pv 1) (pa_cons (pv 2) pa_nil))))))
      (qss_cons (qs_set (i := 6) hx S.nd rfl (Or.inl rfl) (qe_listSor hx t tb hcA rfl hr (pa_cons (pv 4) pa_nil) (by rfl) (by rfl)))
      (qss_cons (qs_set (i := 7) hx S.nd rfl (Or.inr rfl) (qe_listSor hx t tb hcA rfl hr (pa_cons (pv 3) pa_nil) (by rfl) (by rfl)))
      (qss_cons (qs_of hx (ps_if (PW.pt (pw_or (pt_cmpR op_ne (pe_cmpR (op_eqD hr.units) (pe_lc (own := [("_law_row", 9)]) (g := gName 9) rfl S.nd (pi_list (pv 6)) (blkOk_by (N := nmM) (sc := d_law_small_holds.scope) (by decide +kernel))
            (fun _ _ _ _ _ => pg_name (i := 9) S.nd rfl (Or.inl rfl)) (fun _ _ _ _ _ => pts_one (pt_cmpR (r := rNotInD K) (op_notInD hu65) (pv 9) (pv 7) (by rfl))) (fun _ _ _ _ _ => pv 9)) (pe_lst pa_nil) (nomark _)) (pv 5) (nomark _))
          (pw_or1 (pt_cmpR op_ne (pe_cl G1 hr (by rfl) (t.g 17) (pa_cons (pv 3) (pa_cons (pv 4) pa_nil))) (pv 5) (nomark _))))) (pss_one (ps_ret pe_bl)) pss_nil))
      (qss_cons (qs_of hx (ps_setLc (i := 8) (own := [("_law_row", 9)]) (g := gName 9) rfl S.nd rfl rfl rfl (pi_list (pe_cl G6 hr (by rfl) (t.g 35) (pa_cons (pv 0) pa_nil))) (blkOk_by (N := nmM) (sc := d_law_small_holds.scope) (by decide +kernel))
            (fun _ _ _ _ _ => pg_name (i := 9) S.nd rfl (Or.inl rfl)) (fun _ _ _ _ _ => pts_one (PW.pt (pw_and (pt_val (pe_cl G2 hr (by rfl) (t.g 21) (pa_cons (pv 4) (pa_cons (pv 9) pa_nil)))) (pw_and1 (pt_not (pt_val (pe_cl G2 hr (by rfl) (t.g 21) (pa_cons (pv 3) (pa_cons (pv 9) pa_nil))))))))) (fun _ _ _ _ _ => pv 9)))
      (qss_cons (qs_of hx (ps_if (PW.pt (pw_or (pt_cmpR op_ne (pe_cmpR (op_eqD hr.units) (pv 8) (pe_lst pa_nil) (nomark _)) (pv 5) (nomark _))
          (pw_or (pt_cmpR op_ne (pe_cl G2 hr (by rfl) (t.g 21) (pa_cons (pv 3) (pa_cons (pe_cl G3 hr (by rfl) (t.g 22) (pa_cons (pv 4) pa_nil)) pa_nil))) (pv 5) (nomark _))
          (pw_or1 (pt_cmpR op_ne (pe_cl G4 hr (by rfl) (t.g 39) (pa_cons (pv 3) (pa_cons (pv 4) pa_nil))) (pv 5) (nomark _)))))) (pss_one (ps_ret pe_bl)) pss_nil))
      (qss_one (qs_of hx (ps_ret (pe_or (pe_not (pv 5)) (pe_one (pe_cmpR op_ge (pe_cl G7 hr (by rfl) (t.g 28) (pa_cons (pv 3) pa_nil)) (pe_cl G7 hr (by rfl) (t.g 28) (pa_cons (pv 4) pa_nil)) (nomark _))))))))))))), ?_⟩
    have dom := noGap_dom ok.in_ ok'.in_
    refine ⟨_, rfl, _, rfl, ?_⟩
    refine mk_net2 ok (.inl hf) fun H1 x s1 hx0 n1 => ?_
    refine ⟨_, rfl, _, rfl, ?_⟩
    refine mk_net2 ok' (.inl (s1 _ _ hg)) fun H2 y s2 hy0 n2 => ?_
    refine ⟨(by show 2 ≤ sizeLine; decide), fun T hT => ?_⟩
    have sT : Same H2 (upd H2 T (.tup [V.ref x, V.ref y])) := same_new hT
    refine ⟨T, _, rfl, SqT.of upd_same, rfl, _, _, rfl, _, _, rfl, rfl, ?_⟩
    have w3 : Wk (tA Pt) H (upd H2 T (.tup [V.ref x, V.ref y])) := wk_same (s1.trans (s2.trans sT))
    have nx3 := (n1.same s2).same sT
    have ny3 := n2.same sT
    generalize upd H2 T (.tup [V.ref x, V.ref y]) = H3 at w3 nx3 ny3
    refine ⟨_, rfl, _, rfl, _, rfl, f, g, W, st, st', rfl, w3.lst hf, w3.lst hg, ok, ok', hW, fun H4 e s4 he => ?_⟩
    have w4 := w3.trans (wk_same s4)
    have he : e = true ↔ DomL W st st' := he.trans (allFar_iff ok.in_ ok'.in_)
    refine ⟨_, rfl, y, W, st', rfl, ny3.same s4, ok', by omega, w4.1 tabs, fun H5 S1 k5 lv5 => ?_⟩
    have w5 := w4.trans (wk_kp k5)
    have ny5 := (wk_kp k5).net (ny3.same s4)
    have nx5 := (wk_kp k5).net (nx3.same s4)
    have l5 := li_lv lv5
    refine ⟨_, rfl, x, W, st, rfl, nx5, ok, by omega, w5.1 tabs, fun H6 S2 k6 lv6 => ?_⟩
    have w6 := w5.trans (wk_kp k6)
    have ny6 := (wk_kp k6).net ny5
    have nx6 := (wk_kp k6).net nx5
    have l6 := (wk_kp k6).li l5
    have m6 := li_lv lv6
    -- the arrangements
    have es : decide (((srtd W st').filter fun z => !decide (z ∈ srtd W st)) = []) = e := by
      rw [Bool.eq_iff_iff, decide_eq_true_iff, he, ← arrs_iff ok.in_ ok'.in_, List.filter_eq_nil_iff]
      have mem : ∀ (st : List Nat) (ok : OkN W st) (z : List Int), z ∈ srtd W st ↔ z ∈ arr W W [] ∧ asc (res st z) = true := fun st ok z => by
        unfold srtd
        rw [List.mem_filter]
        constructor
        · intro ⟨a, b⟩
          refine ⟨a, ?_⟩
          unfold okb rs at b
          rwa [red_ok ok.in_ (arr_len z a)] at b
        · intro ⟨a, b⟩
          refine ⟨a, ?_⟩
          unfold okb rs
          rwa [red_ok ok.in_ (arr_len z a)]
      constructor
      · intro q z hz hs
        have q1 := q z ((mem st' ok' z).mpr ⟨hz, hs⟩)
        simp only [Bool.not_eq_true', decide_eq_false_iff_not, Decidable.not_not] at q1
        exact ((mem st ok z).mp q1).2
      · intro q z hz
        have hz := (mem st' ok' z).mp hz
        simp only [Bool.not_eq_true', decide_eq_false_iff_not, Decidable.not_not]
        exact (mem st ok z).mpr ⟨hz.1, q z hz.1 hz.2⟩
    have cnt5 : ∀ st, (srtd W st).length ≤ 100000 := fun st => by
      have h1 : (srtd W st).length ≤ (arr W W []).length := List.length_filter_le _ _
      have h2 := arr_count W W []
      have h3 : W ^ W ≤ 6 ^ 6 := Nat.le_trans (Nat.pow_le_pow_left (by omega) _) (Nat.pow_le_pow_right (by decide) (by omega))
      have h4 : 6 ^ 6 ≤ 100000 := by decide
      omega
    refine ⟨_, rfl, S1, rfl, li_sq l6, fun D hD => ?_⟩
    refine lc_li (fun z => !decide (z ∈ srtd W st)) l6 hD (cnt5 st') (fun a L H7 Rt Rf hL s7 ha ht hf => ?_) fun H7 s7 l7 => ?_
    · refine ⟨rfl, ?_⟩
      refine ⟨_, rfl, _, rfl, liD L, _, .lst (SqL.of ha) (dp_ints L), dp_li (li_same s7 m6), shaped_ints L, shaped_lis _, _, rfl, ?_⟩
      rw [any_lis]
      refine ite2 (fun z => ⟨_, rfl, ht _ (Same.refl _) z⟩) fun z => hf _ (Same.refl _) (by simpa using z)
    have emp : ∀ Ls : List (List Int), (Ls.map liD).isEmpty = decide (Ls = []) := fun Ls => by cases Ls <;> simp
    have neq : ∀ c : Bool, (!decide (V.bl c = V.bl c)) = false := fun c => by simp
    refine ⟨(by show 0 ≤ sizeLine; decide), fun q hq' => ?_⟩
    have sq : Same H7 (upd H7 q (.lst [])) := same_new hq'
    refine ⟨_, _, dp_li (li_same sq l7), .lst (SqL.of upd_same) .nil, shaped_lis _, shaped_ints [], ?_⟩
    rw [eqv_nil, emp, es]
    refine ⟨_, rfl, rfl, _, rfl, ?_⟩
    rw [neq]
    refine iteF ?_
    have s8 : Same H6 (upd H7 q (.lst [])) := s7.trans sq
    generalize upd H7 q (.lst []) = H8 at s8
    refine ⟨_, rfl, _, rfl, x, y, W, st, st', rfl, nx6.same s8, ny6.same s8, ok, ok', fun H9 b s9 hb => ?_⟩
    have eb : b = e := by rw [Bool.eq_iff_iff, hb, dom, he]
    subst eb
    refine ⟨_, rfl, rfl, _, rfl, ?_⟩
    rw [neq]
    refine iteF ?_
    have s9' : Same H6 H9 := s8.trans s9
    have w9 := w6.trans (wk_same s9')
    have nx9 := nx6.same s9'
    have ny9 := ny6.same s9'
    clear s9' s9 s8 sq hq' l7 s7 hD
    -- the bits
    refine ⟨_, rfl, W, rfl, hW, fun H10 B s10 lb => ?_⟩
    have nx10 := nx9.same s10
    have ny10 := ny9.same s10
    have blen : (bits W).length ≤ 100000 := by
      unfold bits
      rw [List.length_map, List.length_range]
      have h3 : 2 ^ W ≤ 2 ^ 6 := Nat.pow_le_pow_right (by decide) (by omega)
      have h4 : 2 ^ 6 ≤ 100000 := by decide
      omega
    have ebits : decide (((bits W).filter fun z => asc (res st' z) && !asc (res st z)) = []) = b := by
      rw [Bool.eq_iff_iff, decide_eq_true_iff, he, ← bits_iff ok.in_ ok'.in_, List.filter_eq_nil_iff]
      unfold bits
      simp only [List.mem_map, List.mem_range]
      constructor
      · intro q n hn h1
        have q1 := q _ ⟨n, hn, rfl⟩
        rw [h1] at q1
        simpa using q1
      · rintro q z ⟨n, hn, rfl⟩ h1
        simp only [Bool.and_eq_true, Bool.not_eq_true'] at h1
        rw [q n hn h1.1] at h1
        exact absurd h1.2 (by decide)
    refine ⟨B, rfl, li_sq lb, fun D hD => ?_⟩
    refine lc_li (fun z => asc (res st' z) && !asc (res st z)) lb hD blen (fun a L H11 Rt Rf hL s11 ha ht hf => ?_) fun H11 s11 l11 => ?_
    · have hlen : L.length = W := by
        unfold bits at hL
        obtain ⟨n, _, rfl⟩ := List.mem_map.mp hL
        exact bitRow_len W n
      refine ⟨rfl, ?_⟩
      refine ⟨_, rfl, _, rfl, y, a, W, st', L, rfl, ny10.same s11, ok', ha, hlen, fun H12 s12 => ?_⟩
      refine ⟨_, rfl, ite2 (fun z => ?_) fun z => ?_⟩
      · refine ⟨_, rfl, _, rfl, x, a, W, st, L, rfl, (nx10.same s11).same s12, ok, s12 _ _ ha, hlen, fun H13 s13 => ?_⟩
        refine ⟨_, rfl, ite2 (fun z2 => ⟨_, rfl, ht _ (s12.trans s13) (by rw [z, z2]; rfl)⟩) fun z2 => hf _ (s12.trans s13) (by rw [z]; simpa using z2)⟩
      · have z1 : asc (res st' L) = false := by simpa using z
        exact iteF (hf _ s12 (by rw [z1]; rfl))
    refine ⟨_, rfl, (by show 0 ≤ sizeLine; decide), fun q hq' => ?_⟩
    have sq : Same H11 (upd H11 q (.lst [])) := same_new hq'
    refine ⟨_, _, dp_li (li_same sq l11), .lst (SqL.of upd_same) .nil, shaped_lis _, shaped_ints [], ?_⟩
    rw [eqv_nil, emp, ebits]
    refine ⟨_, rfl, rfl, _, rfl, ?_⟩
    rw [neq]
    refine iteF ?_
    have s14 : Same H10 (upd H11 q (.lst [])) := s11.trans sq
    generalize upd H11 q (.lst []) = H14 at s14
    have nx14 := nx10.same s14
    have ny14 := ny10.same s14
    refine ⟨_, rfl, _, rfl, y, W, st', rfl, ny14, ok', fun H15 p s15 hp => ?_⟩
    refine ⟨x, p, W, st, _, rfl, nx14.same s15, ok, hp, har_len W st', fun H16 s16 => ?_⟩
    have e1 : asc (res st (har W st')) = b := by rw [Bool.eq_iff_iff, hard_iff ok.in_ ok'.in_, he]
    rw [e1]
    refine ⟨_, rfl, rfl, _, rfl, ?_⟩
    rw [neq]
    refine iteF ?_
    have nx16 := (nx14.same s15).same s16
    have ny16 := (ny14.same s15).same s16
    refine ⟨_, rfl, _, rfl, x, y, W, st, st', rfl, nx16, ny16, ok, ok', fun H17 l s17 hl => ?_⟩
    have e2 : l = b := by rw [Bool.eq_iff_iff, hl, lims_iff ok.in_ ok'.in_, he]
    subst e2
    refine ⟨_, rfl, rfl, _, rfl, ?_⟩
    rw [neq]
    refine iteF ?_
    have nx17 := nx16.same s17
    have ny17 := ny16.same s17
    have w17 := w9.trans (wk_same (s10.trans (s14.trans (s15.trans (s16.trans s17)))))
    refine ⟨_, rfl, l, rfl, _, rfl, ite2 (fun z => hq _ w17) fun z => ?_⟩
    refine ⟨_, rfl, x, W, st, rfl, nx17, ok, by omega, fun H18 s18 => ?_⟩
    refine ⟨_, rfl, y, W, st', rfl, ny17.same s18, ok', by omega, fun H19 s19 => ?_⟩
    have zl : l = true := by simpa using z
    have c := count_le ok.in_ ok'.in_ (he.mp zl)
    refine ⟨_, _, rfl, rfl, ?_⟩
    show Q (.bl (decide (count W st' ≤ count W st))) H19
    rw [decide_eq_true c]
    exact hq _ (w17.trans (wk_same (s18.trans s19)))
end
end NwG
end
section
/-! law. -/
namespace NwG
open PySem PySem.Spec PyProof.Rows L2 NwB NwM NdefX LamX StX Nw ClX
/-- a def whose run may hold loud steps -/
def Okg (P : Program) (w : World) (K : PySem.W.Frag) (mg : PySem.Str → Option Value) (base : Heap) (k : Nat) (d : He5.DefA) (ps : List PySem.Str) (sp : Sp) : Prop :=
  ∃ fd, FunD K d.name d.qual d.params d.body d.scope [] [] (d.at_ K) fd ∧ FnG P w K mg base k (d.at_ K) fd ps sp ∧ Binds K fd ps []
theorem qe_cl {X : Cx} {k : Nat} {d : He5.DefA} {ps : List PySem.Str} {sp : Sp} {x : PySem.Str} {p pos : Pos} {e : Expr} {es : List Expr} {t : TA} (hx : NoX X) (o : Okg X.prog X.w X.K X.mg X.base k d ps sp) (hr : Room k X.A) (hg : Gl X x) (hm : X.mg x = some (.ref (d.at_ X.K))) (ha : PA X (e :: es) t) (hdb : (x == ("__debug__" : PySem.Str)) = false := by decide)
    (he : starEach (e :: es) X.env = (false, eval e X.env) :: starEach es X.env := by rfl) (hpl : (backTo pos (starEach es X.env)).any (·.1) = false := by rfl) : QE X (.Call (.Name x p) (e :: es) [] pos) (tCall sp [] E0 t) := by
  obtain ⟨fd, F, G, b⟩ := o
  exact qe_call hx G hr hg hm F.kp b ha hdb he hpl
/-- as Wk, but at l -/
def Ml (T : List NTab) (l : Addr) (H H' : Hp) : Prop := (TabsN T H → TabsN T H') ∧ ∀ a o, a ≠ l → (∀ ps, o ≠ .tbl ps) → H a = some o → H' a = some o
theorem Ml.trans {T : List NTab} {l : Addr} {H H' H'' : Hp} (a : Ml T l H H') (b : Ml T l H' H'') : Ml T l H H'' := ⟨fun t => b.1 (a.1 t), fun x o hl n h => b.2 x o hl n (a.2 x o hl n h)⟩
theorem ml_wk {T : List NTab} {l : Addr} {H H' : Hp} (k : Wk T H H') : Ml T l H H' := ⟨k.1, fun a o _ n h => k.2 a o n h⟩
theorem ml_same {T : List NTab} {l : Addr} {H H' : Hp} (k : Same H H') : Ml T l H H' := ml_wk (wk_same k)
theorem ml_mut {T : List NTab} {l : Addr} {H H' : Hp} (s : Sr H l) (m : Mut l H H') : Ml T l H H' := by
  obtain ⟨A, B, hl⟩ := s
  refine ⟨fun t p hp => ?_, fun a o hne _ h => m a o hne h⟩
  obtain ⟨ps, h1, h2, h3⟩ := t p hp
  refine ⟨ps, m _ _ (fun e => ?_) h1, h2, fun pos cv hc => ?_⟩
  · rw [e, hl] at h1; cases h1
  · obtain ⟨c, e1, e2⟩ := h3 pos cv hc
    refine ⟨c, e1, m _ _ (fun e => ?_) e2⟩
    rw [e, hl] at e2; cases e2
theorem tabs_upd {T : List NTab} {D : Addr} {H : Hp} {xs : List V} {o : HO} (hD : H D = some (.lst xs)) (t : TabsN T H) : TabsN T (upd H D o) := fun p hp => by
  obtain ⟨ps, h1, h2, h3⟩ := t p hp
  refine ⟨ps, (upd_ne fun e => ?_).trans h1, h2, fun pos cv hc => ?_⟩
  · rw [e, hD] at h1; cases h1
  · obtain ⟨c, e1, e2⟩ := h3 pos cv hc
    refine ⟨c, e1, (upd_ne fun e => ?_).trans e2⟩
    rw [e, hD] at e2; cases e2
theorem Ml.lst {T : List NTab} {l : Addr} {H H' : Hp} (k : Ml T l H H') {a : Addr} {xs : List V} (hne : a ≠ l) (h : H a = some (.lst xs)) : H' a = some (.lst xs) := k.2 _ _ hne (fun _ z => nomatch z) h
theorem Ml.wk {T : List NTab} {l : Addr} {H H' : Hp} (k : Ml T l H H') (hl : H l = none) : Wk T H H' := ⟨k.1, fun a o n h => k.2 a o (ne_of_none h hl) n h⟩
theorem sr_wk {T : List NTab} {l : Addr} {H H' : Hp} (s : Sr H l) (k : Wk T H H') : Sr H' l := let ⟨A, B, h⟩ := s; ⟨A, B, k.lst h⟩
theorem sr_ne {l p : Addr} {H : Hp} (s : Sr H l) (h : H p = none) : p ≠ l := let ⟨A, B, hl⟩ := s; Ne.symm (ne_of_none hl h)
theorem sq_wk {K : PySem.W.Frag} {T : List NTab} {H H' : Hp} {a : Addr} {xs : List V} (h : SqL K H a xs) (e : Wk T H H') : SqL K H' a xs :=
  h.elim (fun h => .inl (h.elim (fun h => .inl (e.lst h)) fun ⟨o, h⟩ => .inr ⟨o, e.2 _ _ (fun _ z => nomatch z) h⟩)) fun h => .inr h
theorem okn_sub {W : Nat} {st st' : List Nat} (ok : OkN W st) (s : List.Sublist st' st) : OkN W st' := ⟨ok.lo, ok.hi, Nat.le_trans s.length_le ok.len, fun k hk => ok.at_ k (s.subset hk)⟩
abbrev nmL : List PySem.Str := ["_law_script", "_law_k", "_law_source_here", "_law_width", "_law_first", "_law_second_here", "_law_shorter", "_law_step"]
section
variable {P : Program} {w : World} {K : PySem.W.Frag} {mg : PySem.Str → Option Value} {base : Heap} {cA Pt : Addr}
theorem og_small (t : Tx K mg base) (tb : TabB base mg cA Pt) (hcA : (He.cT K defA).1 = cA) : Okg P w K mg base 22 d_law_small_holds ["_law_width", "_law_first", "_law_second_here"] (spSmall Pt) := by
  obtain ⟨fd, F⟩ := t.c.def_ 45 (d := d_law_small_holds) rfl
  have F : FunD K d_law_small_holds.name d_law_small_holds.qual d_law_small_holds.params d_law_small_holds.body d_law_small_holds.scope [] [] (d_law_small_holds.at_ K) fd := F
  exact ⟨fd, F, g_small t tb hcA F, F.bindsN (fun _ _ _ _ _ _ us hl => match us, hl with | [_, _, _], _ => rfl)⟩
def spLaw (K : PySem.W.Frag) (Pt : Addr) : Sp := fun vs H Q _ => ∃ (s : Addr) (xs : List Int), vs = [.ref s] ∧ SqL K H s (iV xs) ∧ TabsN (tA Pt) H ∧ ∀ H', Q (.bl true) H'
theorem g_law (t : Tx K mg base) (tb : TabB base mg cA Pt) (hcA : (He.cT K defA).1 = cA) {fd : FuncData} (F : FunD K d_law.name d_law.qual d_law.params d_law.body d_law.scope [] [] (d_law.at_ K) fd) : FnG P w K mg base 23 (d_law.at_ K) fd ["_law_script"] (spLaw K Pt) := by
  have S : FnScope nmL ["_law_script"] d_law.scope := ⟨rfl, rfl, rfl, by decide +kernel, rfl, by decide +kernel, by decide +kernel⟩
  have GM : Okg P w K mg base 22 d_law_small_holds ["_law_width", "_law_first", "_law_second_here"] (spSmall Pt) := og_small t tb hcA
  have GS : Okd P w K mg base 22 d_law_source ["_law_script", "_law_k"] (spSrc K) := okd_mono (ok_law_source t) (by decide)
  have GD : Okd P w K mg base 22 d_law_draw ["_law_source_here", "_law_count"] spDraw := okd_mono (ok_law_draw t) (by decide)
  have GT : Okd P w K mg base 22 d_law_steps ["_law_source_here", "_law_width", "_law_most"] spLSt := okd_mono (ok_law_steps t) (by decide)
  have GC : Okd P w K mg base 22 d_law_second ["_law_source_here", "_law_width", "_law_first", "_law_most"] spSec := okd_mono (ok_law_second t) (by decide)
  have GL : Okd P w K mg base 22 d_law_large_holds ["_law_width", "_law_first", "_law_second_here"] spLarge := okd_mono (ok_law_large_holds plain_holds t) (by decide)
  have G1 : Okd P w K mg base 22 d_dominates ["first", "second"] (spDom K) := okd_mono (ok_dominates t) (by decide)
  refine fn_ofG F S (fun vs H Q E h => ?_) fun cdv A outer s H vs Q E hr e0 h => ?_
  · obtain ⟨_, _, rfl, _⟩ := h
    rfl
  · obtain ⟨sc, xs, rfl, hsc, tabs, hq⟩ := h
    have hx : NoX (cxOf CX0 P w K mg base nmL d_law.qual d_law.scope (d_law.at_ K) cdv A outer s H E).nox := fun _ _ z => z
    refine ⟨_, qss_cons (qs_for hx rfl (pi_range1 (by rfl) t.range (pa_cons (pe_callB (call_max2 rfl) (by rfl) t.max (by decide +kernel) (pa_cons pe_int (pa_cons (pe_callB (call_min2 rfl) (by rfl) t.min (by decide +kernel) (pa_cons (pe_callB call_len_seq (by rfl) t.len PySem.boot_len (pa_cons (pv 0) pa_nil)) (pa_cons pe_int pa_nil))) pa_nil))) pa_nil)) (pg_name (i := 1) S.nd rfl (Or.inl rfl))
      (qss_cons (qs_of hx (ps_set (i := 2) S.nd rfl (Or.inr rfl) (pe_cl GS hr (by rfl) (t.g 31) (pa_cons (pv 0) (pa_cons (pv 1) pa_nil)))))
      (qss_cons (qs_of hx (ps_set (i := 3) S.nd rfl (Or.inl rfl) (pe_op op_add pe_int (pe_cl GD hr (by rfl) (t.g 32) (pa_cons (pv 2) (pa_cons pe_int pa_nil))))))
      (qss_cons (qs_of hx (ps_set (i := 4) S.nd rfl (Or.inl rfl) (pe_cl GT hr (by rfl) (t.g 33) (pa_cons (pv 2) (pa_cons (pv 3) (pa_cons pe_int pa_nil))))))
      (qss_cons (qs_of hx (ps_set (i := 5) S.nd rfl (Or.inl rfl) (pe_cl GC hr (by rfl) (t.g 38) (pa_cons (pv 2) (pa_cons (pv 3) (pa_cons (pv 4) (pa_cons pe_int pa_nil)))))))
      (qss_cons (qs_if (qt_or (qt_not (qt_val (qe_cl hx GM hr (by rfl) (t.g 40) (pa_cons (pv 3) (pa_cons (pv 4) (pa_cons (pv 5) pa_nil)))))) (qt_not (qt_val (qe_cl hx GM hr (by rfl) (t.g 40) (pa_cons (pv 3) (pa_cons (pv 5) (pa_cons (pv 4) pa_nil))))))) (qss_one (qs_of hx (ps_ret pe_bl))) qss_nil)
      (qss_cons (qs_of hx (ps_set (i := 3) S.nd rfl (Or.inl rfl) (pe_op op_add pe_int (pe_cl GD hr (by rfl) (t.g 32) (pa_cons (pv 2) (pa_cons pe_int pa_nil))))))
      (qss_cons (qs_of hx (ps_set (i := 4) S.nd rfl (Or.inl rfl) (pe_cl GT hr (by rfl) (t.g 33) (pa_cons (pv 2) (pa_cons (pv 3) (pa_cons pe_int pa_nil))))))
      (qss_cons (qs_of hx (ps_set (i := 5) S.nd rfl (Or.inl rfl) (pe_cl GC hr (by rfl) (t.g 38) (pa_cons (pv 2) (pa_cons (pv 3) (pa_cons (pv 4) (pa_cons pe_int pa_nil)))))))
      (qss_cons (qs_of hx (ps_if (PW.pt (pw_or (pt_not (pt_val (pe_cl GL hr (by rfl) (t.g 41) (pa_cons (pv 3) (pa_cons (pv 4) (pa_cons (pv 5) pa_nil)))))) (pw_or1 (pt_not (pt_val (pe_cl GL hr (by rfl) (t.g 41) (pa_cons (pv 3) (pa_cons (pv 5) (pa_cons (pv 4) pa_nil))))))))) (pss_one (ps_ret pe_bl)) pss_nil))
      (qss_cons (qs_of hx (ps_setLc (i := 6) (own := [("_law_step", 7)]) (g := gName 7) rfl S.nd rfl rfl rfl (pi_list (pv 4)) (blkOk_by (N := nmL) (sc := d_law.scope) (by decide +kernel))
            (fun _ _ _ _ _ => pg_name (i := 7) S.nd rfl (Or.inl rfl)) (fun _ _ _ _ _ => pts_one (pt_cmpR op_gt (pe_cl GD hr (by rfl) (t.g 32) (pa_cons (pv 2) (pa_cons pe_int pa_nil))) pe_int (nomark _))) (fun _ _ _ _ _ => pv 7)))
      (qss_one (qs_of hx (ps_if (pt_cmpR op_notBl (pe_cl G1 hr (by rfl) (t.g 17) (pa_cons (pe_mk t (Room.mono (k := 22) hr (by decide)) (by rfl) (pa_cons (pv 3) (pa_cons (pv 4) pa_nil))) (pa_cons (pe_mk t (Room.mono (k := 22) hr (by decide)) (by rfl) (pa_cons (pv 3) (pa_cons (pv 6) pa_nil))) pa_nil))) pe_bl (nomark _)) (pss_one (ps_ret pe_bl)) pss_nil)))))))))))))) 
      (qss_one (qs_of hx (ps_ret pe_bl))), ?_⟩
    refine ⟨_, rfl, sc, _, rfl, .inl hsc, _, _, rfl, _, _, rfl, ?_⟩
    have hc : ∀ n : Nat, (if (if (6 : Int) < (n : Int) then (6 : Int) else (n : Int)) > 1 then (if (6 : Int) < (n : Int) then (6 : Int) else (n : Int)) else 1) ≤ 6 ∧ 1 ≤ (if (if (6 : Int) < (n : Int) then (6 : Int) else (n : Int)) > 1 then (if (6 : Int) < (n : Int) then (6 : Int) else (n : Int)) else 1) := fun n => by
      split <;> split <;> omega
    have hc := hc (iV xs).length
    generalize (if (if (6 : Int) < ((iV xs).length : Nat) then (6 : Int) else ((iV xs).length : Nat)) > 1 then (if (6 : Int) < ((iV xs).length : Nat) then (6 : Int) else ((iV xs).length : Nat)) else 1) = c0 at hc ⊢
    refine ⟨c0, rfl, by omega, by omega, ?_⟩
    refine for_range (n := c0.toNat) (fun i σ H' => (∃ a1 a2 a3 a4 a5 a6 a7, σ = [some (.ref sc), a1, a2, a3, a4, a5, a6, a7]) ∧ Wk (tA Pt) H H') ⟨⟨_, _, _, _, _, _, _, rfl⟩, Wk.refl⟩ (fun i σ H0 hi ⟨⟨a1, a2, a3, a4, a5, a6, a7, es⟩, w0⟩ => ?_) (fun σ H0 _ => hq H0)
    subst es
    have tabs0 := w0.1 tabs
    refine ⟨_, rfl, _, rfl, sc, xs, i, (by simp), sq_wk hsc w0, by omega, fun H1 l s1 l0 r1 => ?_⟩
    have m1 : Ml (tA Pt) l H0 H1 := ml_same s1
    refine ⟨_, rfl, l, 5, rfl, r1, by decide, by decide, fun H2 d m2 r2 d0 d5 => ?_⟩
    have m2 := m1.trans (ml_mut r1 m2)
    obtain ⟨W, hW⟩ : ∃ W : Nat, 1 + d = (W : Nat) := ⟨(1 + d).toNat, by omega⟩
    refine ⟨_, _, rfl, rfl, ?_⟩
    simp only [hW]
    refine ⟨_, rfl, _, rfl, l, W, 12, rfl, r2, by omega, by omega, by decide, fun H3 p st m3 r3 p0 p1 ok1 len1 => ?_⟩
    have hpl := sr_ne r2 p0
    have m3 := m2.trans (ml_mut r2 m3)
    refine ⟨_, rfl, _, rfl, _, rfl, l, p, W, 12, st, rfl, r3, p1, hpl, ok1, by omega, by decide, fun H4 q st' m4' r4 q0 q1 ok2 len2 => ?_⟩
    have hql := sr_ne r3 q0
    have m4 := m3.trans (ml_mut r3 m4')
    have p4 := m4' _ _ hpl p1
    refine ⟨_, rfl, _, rfl, _, rfl, p, q, W, st, st', rfl, p4, q1, ok1, ok2, by omega, m4.1 tabs0, fun H5 w5 => ?_⟩
    refine ⟨true, rfl, iteF ?_⟩
    refine ⟨_, rfl, _, rfl, _, rfl, q, p, W, st', st, rfl, w5.lst q1, w5.lst p4, ok2, ok1, by omega, w5.1 (m4.1 tabs0), fun H6 w6 => ?_⟩
    refine ⟨true, rfl, iteF ?_⟩
    have w56 := w5.trans w6
    have m6 := m4.trans (ml_wk w56)
    have r6 := sr_wk r4 w56
    clear w56 w5 w6 p4 m3 m2
    -- the wide ones
    refine ⟨_, rfl, l, 40, rfl, r6, by decide, by decide, fun H7 d' m7 r7 d0' d5' => ?_⟩
    have m7 := m6.trans (ml_mut r6 m7)
    obtain ⟨W', hW'⟩ : ∃ W' : Nat, 1 + d' = (W' : Nat) := ⟨(1 + d').toNat, by omega⟩
    refine ⟨_, _, rfl, rfl, ?_⟩
    simp only [hW']
    refine ⟨_, rfl, _, rfl, l, W', 80, rfl, r7, by omega, by omega, by decide, fun H8 u su m8 r8 u0 u1 ok3 len3 => ?_⟩
    have hul := sr_ne r7 u0
    have m8 := m7.trans (ml_mut r7 m8)
    refine ⟨_, rfl, _, rfl, _, rfl, l, u, W', 80, su, rfl, r8, u1, hul, ok3, by omega, by decide, fun H9 v sv m9' r9 v0 v1 ok4 len4 => ?_⟩
    have hvl := sr_ne r8 v0
    have m9 := m8.trans (ml_mut r8 m9')
    have u9 := m9' _ _ hul u1
    refine ⟨_, rfl, _, rfl, _, rfl, u, v, W', su, sv, rfl, u9, v1, ok3, ok4, fun Ha sa => ?_⟩
    refine ⟨true, rfl, iteF ?_⟩
    refine ⟨_, rfl, _, rfl, _, rfl, v, u, W', sv, su, rfl, sa _ _ v1, sa _ _ u9, ok4, ok3, fun Hb sb => ?_⟩
    refine ⟨true, rfl, iteF ?_⟩
    have sab := sa.trans sb
    have mb := m9.trans (ml_same (l := l) (T := tA Pt) sab)
    have rb := sr_wk r9 (wk_same (T := tA Pt) sab)
    have ub := sab _ _ u9
    -- the shorter one
    refine ⟨_, rfl, u, rfl, ⟨_, SqL.of ub⟩, fun D hD => ?_⟩
    have hDl := sr_ne rb hD
    have sD : Same Hb (upd Hb D (.lst [])) := same_new hD
    refine lc_list (xs := nV su) (fun i H' => Ml (tA Pt) l Hb H' ∧ Sr H' l ∧ ∃ st', H' D = some (.lst (nV st')) ∧ List.Sublist st' (su.take i))
      ⟨ml_same sD, sr_wk rb (wk_same (T := tA Pt) sD), [], upd_same, List.nil_sublist _⟩ (fun i H' _ ⟨b, _⟩ => SqL.of (b.lst hul ub)) (fun i x H' hx ⟨b0, b1, st2, b2, b3⟩ => ?_) (fun H' ⟨b0, b1, st2, b2, b3⟩ => ?_)
    · have hi : i < su.length := by
        have := (List.getElem?_eq_some_iff.mp hx).1
        simpa using this
      rw [nat_ hi] at hx
      obtain rfl := (Option.some.inj hx).symm
      have et : su.take (i + 1) = su.take i ++ [su[i]] := List.take_succ_eq_append_getElem hi
      refine ⟨rfl, ?_⟩
      refine ⟨_, rfl, l, 5, rfl, b1, by decide, by decide, fun Hc r mc rc r0 r5 => ?_⟩
      refine ⟨_, _, rfl, rfl, _, rfl, ?_⟩
      have hc2 := mc _ _ hDl b2
      have mm := b0.trans (ml_mut b1 mc)
      refine ite2 (fun z => ?_) (fun z => ?_)
      · refine ⟨_, rfl, _, hc2, ?_, ⟨fun tb => ?_, fun a o hl n hh => ?_⟩, ?_, st2 ++ [su[i]], ?_, ?_⟩
        · rw [nV_len]
          have := b3.length_le
          rw [List.length_take] at this
          exact small1000 (by omega)
        · exact tabs_upd hc2 (mm.1 tb)
        · exact (upd_ne (ne_of_none hh hD)).trans (mm.2 _ _ hl n hh)
        · obtain ⟨A, B, hl⟩ := rc
          exact ⟨A, B, (upd_ne (Ne.symm hDl)).trans hl⟩
        · rw [upd_same, nV, nV, List.map_append, List.map_cons, List.map_nil]
        · rw [et]
          exact b3.append (List.Sublist.refl _)
      · refine ⟨mm, rc, st2, hc2, ?_⟩
        rw [et]
        exact b3.trans (List.sublist_append_left _ _)
    · rw [nV_len, List.take_length] at b3
      have ok5 := okn_sub ok3 b3
      have ue := b0.lst hul ub
      refine ⟨_, rfl, _, rfl, ?_⟩
      refine mk_net2 ok3 (.inl ue) fun He x se hx0 n1 => ?_
      refine ⟨_, rfl, _, rfl, ?_⟩
      refine mk_net2 ok5 (.inl (se _ _ b2)) fun Hf y sf hy0 n2 => ?_
      refine ⟨x, y, W', su, st2, rfl, n1.same sf, n2, ok3, ok5, fun Hg b sg hb => ?_⟩
      have eb : b = true := hb.mpr (noGap_sub ok3.in_ b3)
      subst eb
      refine ⟨_, _, rfl, rfl, _, rfl, iteF ?_⟩
      exact ⟨⟨_, _, _, _, _, _, _, rfl⟩, w0.trans (((mb.trans b0).trans (ml_same (se.trans (sf.trans sg)))).wk l0)⟩
end
end NwG
end
section
/-! The end: law called by the caller, in a heap of which the table of arrangements and the script are tracked. -/
namespace NwG
open PySem PySem.Spec PyProof.Rows L2 NwB NwM NdefX LamX StX Nw ClX
abbrev tabO : Obj := { cls := .none, data := .fields #[] }
abbrev lstO (vs : List Value) : Obj := { cls := .type "list", data := .seq vs.toArray }
/-- what is tracked at the call -/
def seen (K : PySem.W.Frag) (Pt a : Addr) (vs : List Value) (ns : List Int) : Hp := fun b =>
  if b = Pt then some (.tbl #[]) else if b = a ∧ (K.lookup a).isNone = true then some (.frz (lstO vs) (.lst (ns.map V.int))) else none
section
variable {K : PySem.W.Frag} {Pt a : Addr} {vs : List Value} {ns : List Int}
theorem seen_tab : seen K Pt a vs ns Pt = some (.tbl #[]) := if_pos rfl
theorem seen_not {b : Addr} (h1 : b ≠ Pt) (h2 : b ≠ a) : seen K Pt a vs ns b = none := by
  unfold seen
  rw [if_neg h1, if_neg fun z => h2 z.1]
theorem seen_K {b : Addr} (h1 : b ≠ Pt) (h2 : (K.lookup b).isSome = true) : seen K Pt a vs ns b = none := by
  unfold seen
  rw [if_neg h1, if_neg fun z => ?_]
  rw [z.1] at h2
  cases q : K.lookup a with
  | none => rw [q] at h2; cases h2
  | some o => rw [q] at z; cases z.2
theorem seen_inv {b : Addr} {o : HO} (h : seen K Pt a vs ns b = some o) : (b = Pt ∧ o = .tbl #[]) ∨ (b = a ∧ o = .frz (lstO vs) (.lst (ns.map V.int))) := by
  unfold seen at h
  split at h
  · next e => exact .inl ⟨e, (Option.some.inj h).symm⟩
  · split at h
    · next e => exact .inr ⟨e.1, (Option.some.inj h).symm⟩
    · cases h
end
theorem end_G {P : Program} {w : World} {K : PySem.W.Frag} {mg mb : PySem.Str → Option Value} {k : Nat} {f a cA Pt : Addr} {fd : FuncData} {x : PySem.Str} {sp : Sp} {s₁ : Shared} {vs : List Value} {ns : List Int}
    (kin : K.In s₁.heap) (hd : PySem.W.codeHdIn K cA Pt = true) (out : K.lookup Pt = none) (empty : s₁.heap.get? Pt = some tabO)
    (hns : s₁.heap.Ns mainGlobals mg) (hb : s₁.heap.Ns builtinsNs mb) (hbb : ∀ y : PySem.Str, y ≠ "__name__" → mb y = bootBuiltins y) (lim : s₁.heap.NoLimit) (hg : s₁.gens = #[])
    (bmn : ∃ (m : Addr) (u : Obj), mg "__builtins__" = some (.ref m) ∧ m ≠ builtinsNs ∧ s₁.heap.get? m = some u ∧ u.cls = .type "module" ∧ u.dict = some builtinsNs ∧ u.data = .plain)
    (ha : s₁.heap.get? a = some (lstO vs)) (hi : IntsAre vs ns) (hl : ns.length ≤ sizeLine) (hr : Room k callerA)
    (F : ∀ base : Heap, K.In base → base.Ns mainGlobals mg → TabB base mg cA Pt → FnG P w K mg base k f fd [x] sp) (bind : ∀ (s : Shared) (u : Value), BindsTo s fd ⟨[u], []⟩ [(x, u)])
    (hsp : ∀ H : Hp, H Pt = some (.tbl #[]) → SqL K H a (ns.map V.int) → sp [.ref a] H (fun v _ => v = .bl true) E0) :
    codeG (model P w) callerA (.call (.ref f) ⟨[.ref a], []⟩) (fun r s' => r = .ok (.ret (.bool true)) ∧ OldK s₁.heap s'.heap ∧ s'.os = s₁.os ∧ AllBare s'.gens) s₁ := by
  have neP : ∀ {b : Addr} {o : Obj}, s₁.heap.get? b = some o → o.data ≠ .fields #[] → b ≠ Pt := fun {b o} e h z => by
    rw [z, empty] at e
    cases e
    exact h rfl
  have neA : ∀ {b : Addr} {o : Obj}, s₁.heap.get? b = some o → (∀ xs n, o.data ≠ .seq xs n) → b ≠ a := fun {b o} e h z => by
    rw [z, ha] at e
    cases e
    exact h _ _ rfl
  have aP : a ≠ Pt := neP ha fun z => by cases z
  have rv := vals_ints hi
  let H : Hp := seen K Pt a vs ns
  let base : Heap := hidT s₁.heap H
  have low : ∀ {b : Addr} {o : Obj}, s₁.heap.get? b = some o → b ≠ Pt → b ≠ a → base.get? b = some o := fun e h1 h2 => hidT_get e (seen_not h1 h2)
  have nsb : ∀ {b : Addr} {m : PySem.Str → Option Value}, s₁.heap.Ns b m → base.Ns b m := fun ⟨o, es, ep, e, d, r⟩ => ⟨o, es, ep, low e (neP e fun z => by rw [d] at z; cases z) (neA e fun xs n z => by rw [d] at z; cases z), d, r⟩
  have kb : K.In base := fun b o e => hidT_get (kin b o e) (seen_K (fun z => by rw [z, out] at e; cases e) (by rw [e]; rfl))
  have gP : mainGlobals ≠ Pt := let ⟨o, es, ep, e, d, _⟩ := hns; neP e fun z => by rw [d] at z; cases z
  have gM : ∀ {m : Addr} {u : Obj}, s₁.heap.get? m = some u → u.data = .plain → m ≠ mainGlobals := fun {m u} e d z => by
    obtain ⟨o, es, ep, e2, d2, _⟩ := hns
    rw [z, e2] at e
    cases e
    rw [d2] at d
    cases d
  have tb : TabB base mg cA Pt := tabB_of_K kb hd (by
    obtain ⟨m, u, b1, b2, b3, b4, b5, b6⟩ := bmn
    have m1 := neP b3 fun z => by rw [b6] at z; cases z
    have m2 := neA b3 fun xs n z => by rw [b6] at z; cases z
    exact ⟨m, u, b1, b2, gM b3 b6, m1, low b3 m1 m2, b4, b5, b6⟩) gP
  have md : L2.Mod K mg base := ⟨kb, nsb hns, ⟨mb, nsb hb, hbb⟩, let ⟨mc, h1, h2⟩ := lim; ⟨mc, nsb h1, h2⟩⟩
  have hok : HOk P w H s₁.heap := fun b o h => by
    rcases seen_inv h with ⟨rfl, rfl⟩ | ⟨rfl, rfl⟩
    · exact empty
    · exact ⟨ha, by rw [List.length_map]; exact hl, vs, _, rv, ha⟩
  have hS : SqL K H a (ns.map V.int) := by
    cases q : K.lookup a with
    | none => exact .inl (.inr ⟨lstO vs, (if_neg aP).trans (if_pos ⟨rfl, by rw [q]; rfl⟩)⟩)
    | some o =>
      have e := kin a o q
      rw [ha] at e
      cases e
      exact .inr ⟨_, vs.toArray, _, q, rfl, rfl, rfl, by rw [List.size_toArray, hi.length]; exact hl, by simpa using rv⟩
  have e0 : Env0 P w K mg base callerA [] s₁ H := ⟨rfl, md, fun b o e => of_hidT e, Nat.le_of_eq (hidT_size _ _), trivial, fun b h => absurd (show b ∈ ([] : List Addr) from h) (by simp), hok, .of_eq hg⟩
  refine codeG_mono ((F base kb (nsb hns) tb).run callerA [] s₁ H ⟨[.ref a], []⟩ [.ref a] [.ref a] _ E0 hr e0 (bind s₁ (.ref a)) (.cons rfl .nil) (hsp H seen_tab hS)) fun r s' h => ?_
  cases r with
  | error e => exact h.elim
  | ok fl =>
    cases fl with
    | next => exact h.elim
    | brk => exact h.elim
    | cont => exact h.elim
    | ret u =>
      obtain ⟨v, H', os, bare, un, hok', r', q⟩ := h
      obtain rfl : v = .bl true := q
      obtain rfl : u = Value.bool true := r'
      have kept : ∀ b o, b ≠ Pt → s₁.heap.get? b = some o → s'.heap.get? b = some o := fun b o nb e => by
        cases q : H b with
        | none => exact un.keep b o e q (fun z => absurd (show b ∈ ([] : List Addr) from z) (by simp)) (by simp)
        | some u =>
          rcases seen_inv q with ⟨z, _⟩ | ⟨rfl, rfl⟩
          · exact absurd z nb
          · obtain ⟨e2, _⟩ := hok' _ _ (un.frzs _ _ _ q)
            rw [ha] at e
            cases e
            exact e2
      obtain ⟨more, hm⟩ := un.tbls Pt #[] seen_tab
      have hm : s'.heap.get? Pt = some { cls := .none, data := .fields (#[] ++ more) } := hok' Pt _ hm
      refine ⟨rfl, ⟨fun b o e => ?_, fun b o e => ?_⟩, os, bare⟩
      · by_cases z : b = Pt
        · subst z
          rw [empty] at e
          cases e
          exact .inr (.inl ⟨((PySem.W.codeHd_of_K kin hd).tab empty).isCodeTable, rfl, #[], more, rfl, hm⟩)
        · exact .inl (kept b o z e)
      · by_cases z : b = Pt
        · subst z
          exact ⟨_, hm⟩
        · exact ⟨o, kept b o z e⟩
end NwG
end
section
/-! The statement. -/
namespace NwG
open PySem PySem.Spec PyProof.Rows L2 NwB NwM NdefX LamX StX Nw ClX
theorem tabs_new {H : Hp} {Pt : Addr} (h : H Pt = some (.tbl #[])) : TabsN (tA Pt) H := fun p hp => by
  rw [List.mem_singleton.mp hp]
  exact ⟨#[], h, trivial, fun pos cv hc => by cases hc⟩
abbrev qN : Program := PySem.W.view Nw.R.prog [65]
theorem law_called (l : PySem.W.OpenLaw) (w : World) (s₁ : Shared) (mg mb : PySem.Str → Option Value) (fa a : Addr) (vs : List Value) (ns : List Int) {K : PySem.W.Frag} (kin : K.In s₁.heap) (c : SaysN s₁.heap K) (hns : s₁.heap.Ns mainGlobals mg) (hb : s₁.heap.Ns builtinsNs mb)
    (hbb : ∀ y : PySem.Str, y ≠ "__name__" → mb y = bootBuiltins y) (lim : s₁.heap.NoLimit) (hg : s₁.gens = #[]) (bmn : ∃ (m : Addr) (u : Obj), mg "__builtins__" = some (.ref m) ∧ m ≠ builtinsNs ∧ s₁.heap.get? m = some u ∧ u.cls = .type "module" ∧ u.dict = some builtinsNs ∧ u.data = .plain)
    (hmg : mg "law" = some (.ref fa)) (ha : s₁.heap.get? a = some (lstO vs)) (hi : IntsAre vs ns) (hl : ns.length ≤ sizeLine) :
    codeG (model l.prog w) callerA (.call (.ref fa) ⟨[.ref a], []⟩) (fun r s' => r = .ok (.ret (.bool true)) ∧ OldK s₁.heap s'.heap ∧ s'.os = s₁.os ∧ AllBare s'.gens) s₁ := by
  obtain ⟨fd, F⟩ := c.all.def_ 47 (d := d_law) rfl
  have F : FunD K d_law.name d_law.qual d_law.params d_law.body d_law.scope [] [] (d_law.at_ K) fd := F
  have e : fa = d_law.at_ K := by
    have z := hmg.symm.trans (He.glo_ok kin hns (c.all.fact 42 (f := .glo "law") rfl))
    injection z with z
    injection z
  subst e
  have b := F.bindsA (ps := ["_law_script"]) fun _ _ _ _ _ _ us hl => match us, hl with | [_], _ => rfl
  exact end_G (k := 23) (x := "_law_script") (sp := spLaw K (He.cT K defA).2) kin c.hd c.out c.empty hns hb hbb lim hg bmn ha hi hl ⟨rfl, by decide, by decide⟩
    (fun base kb nb tb => g_law ⟨c.all, c.ex, kb, nb⟩ tb rfl F) (fun s u => b s [u] rfl) fun H h1 h2 => ⟨a, ns, rfl, h2, tabs_new h1, fun _ => rfl⟩
end NwG
end
section
/-! The row. -/
namespace NwG
open PySem PySem.W PySem.Calls PyProof.Rows HandSHeadRun
abbrev rwN : OpenLaw := PySem.Challenge.rw_nearswap_k84_whole_domination_and_sorted
theorem walkN : NwM.WalkL qN Nw.loose (XL qN []) Nw.hk.says Nw.R.toRowW (topDef Nw.R.prog 65) [] := by
  intro w s₀ s₁ mg mb G Y fa o pm cd doc dV kV ho hd hcd hD hmg hg args vals as hpre hlay hrd hwl hlo
  obtain ⟨K, kin, c⟩ := Y
  obtain ⟨a, vs, ns, rfl, rfl, hobj, hints, hlen⟩ := Att.script_of (l := rwN) (n := 63) rfl hpre hwl
  have nm : (topDef Nw.R.prog 65).name = ("law" : PySem.Str) := by kernel_rfl
  rw [nm] at hmg
  have z := law_called rwN w s₁ mg mb fa a vs ns kin c G.T.g G.T.b G.T.builtins G.T.nolimit hg G.T.bmain hmg hobj hints (Nat.le_trans hlen (by decide))
  refine NwM.wpG_mono (NwM.wpG_call (E := fun _ _ => False) (NwM.codeG_mono z fun r s' q => ?_)) (fun v s' q => q) fun _ _ q => q.elim
  obtain ⟨rfl, q2, q3, q4⟩ := q
  exact ⟨.inl ⟨.bool true, .bool true, [], rfl, fun _ => rfl, .bool true, Att.post_true rwN _, fun _ => ⟨List.Pairwise.nil, fun _ m => (nomatch m)⟩⟩, q2, q3, q4⟩
theorem leftN : LeftO Nw.R.prog qN Nw.loose (fun s => xlAt qN [] s && recOk Nw.R.toRowW.records s) Nw.hk.obs Nw.hk.val 6600 := by
  refine left_one (M := 6000) (N := 6600) (by kernel_rfl) (by decide) (fun s => by kernel_rfl) (by decide) fun w os => ?_
  have z := Nw.run w os
  rw [show Nw.ob = (fun s => Nw.hk.obs s.abs) from funext Nw.ob_eq] at z
  simp only [seenQ_eq, endQ_eq]
  exact z
end NwG
open PySem PySem.W PySem.Calls PyProof.Rows
theorem PySem.Challenge.cw_nearswap_k84_whole_domination_and_sorted_holds : PySem.Challenge.rw_nearswap_k84_whole_domination_and_sorted.Holds := by
  w_on; o_law
  refine NwM.holds_L (r := Nw.R) (q := NwG.qN) (loose := Nw.loose) (XP := XL NwG.qN []) (YP := Nw.hk.says) (d := HandSHeadRun.topDef Nw.R.prog 65) (kwd := []) NwG.leftN Nw.hk.of Nw.hk.keeps (fun s z => xl_of s (Bool.and_eq_true_iff.mp z).1) XL.keeps
    (by kernel_rfl) (by kernel_rfl) (by kernel_rfl) (fun s z => recFacts_of (Bool.and_eq_true_iff.mp z).2) (by rfl) (by first | assumption | decide +kernel) (by decide +kernel) ⟨rfl, rfl, rfl, rfl, rfl, by decide +kernel⟩ ?hw NwG.walkN
  case hw => w_witness2
end
