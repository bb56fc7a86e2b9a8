import PyProof.Rows.All
import Wide.All
import OpenK.AllK
import Wide.FinOn
import HandS.Base
import HandS.Call
import HandS.Words
import HandS.Defaults
import HandS.Head0
import HandS.Head1
import HandS.Head2
import HandS.HeadEnd
import HandS.HeadHook1
import HandS.HeadHook2
import HandS.HeadHook3
import HandS.HeadHook4
import HandS.List
import HandS.Comp
import HandS.Dict
import HandS.Iter
import HandS.More
import HandS.DictComp
import KE.KDictDisplayH
import KE.KDictWalk
import HandS.Ends
import HandS.WordsList
import HandS.WordsDict
import HandS.WordsExc
import HandS.IsInst
import HandS.RaiseMore
import HandS.Walk
import HandS.MakeKwOnly
import PySem.Challenge.RW_heightsums_k51_whole_paths_and_their_fir
set_option Elab.async false
set_option linter.all false
set_option maxRecDepth 100000
set_option maxHeartbeats 0
namespace Hs
open PySem PySem.Spec PyProof.Rows L2
/-! ### the text by places -/
def top (i : Nat) : Stmt := PySem.Challenge.pw_heightsums_k51_whole_paths_and_their_fir.main.body.getD i (.Pass ⟨0, 0, 0, 0⟩)
/-! ### the head: what the top has left -/
abbrev cB (K : PySem.W.Frag) : Addr := He.ga K "Band"
def d_is_integer : He.DefD := ⟨("is_integer", none), "is_integer", "is_integer", defArgs (top 11), defBody (top 11), defScope (top 11), [], []⟩
def d_check_integer : He.DefD := ⟨("check_integer", none), "check_integer", "check_integer", defArgs (top 12), defBody (top 12), defScope (top 12), [.non], []⟩
def d_is_state : He.DefD := ⟨("is_state", none), "is_state", "is_state", defArgs (top 14), defBody (top 14), defScope (top 14), [], []⟩
def d_check_state : He.DefD := ⟨("check_state", none), "check_state", "check_state", defArgs (top 15), defBody (top 15), defScope (top 15), [], []⟩
def d_after_step : He.DefD := ⟨("after_step", none), "after_step", "after_step", defArgs (top 16), defBody (top 16), defScope (top 16), [], []⟩
def d_difference : He.DefD := ⟨("difference", none), "difference", "difference", defArgs (top 18), defBody (top 18), defScope (top 18), [], []⟩
def d_Band_includes : He.DefD := ⟨("Band", some "includes"), "includes", "Band.includes", defArgs (inClass (top 20) 5), defBody (inClass (top 20) 5), defScope (inClass (top 20) 5), [], []⟩
def d_Band_room : He.DefD := ⟨("Band", some "room"), "room", "Band.room", defArgs (inClass (top 20) 8), defBody (inClass (top 20) 8), defScope (inClass (top 20) 8), [], []⟩
def d_Band___init__ : He.DefD := ⟨("Band", some "__init__"), "__init__", "Band.__init__", defArgs (inClass (top 20) 0), defBody (inClass (top 20) 0), defScope (inClass (top 20) 0), [.non, .non], []⟩
def d_to_band : He.DefD := ⟨("to_band", none), "to_band", "to_band", defArgs (top 21), defBody (top 21), defScope (top 21), [], []⟩
def d_check_height : He.DefD := ⟨("check_height", none), "check_height", "check_height", defArgs (top 22), defBody (top 22), defScope (top 22), [], []⟩
def d_capped : He.DefD := ⟨("capped", none), "capped", "capped", defArgs (top 24), defBody (top 24), defScope (top 24), [], []⟩
def d_depth_of : He.DefD := ⟨("depth_of", none), "depth_of", "depth_of", defArgs (top 25), defBody (top 25), defScope (top 25), [], []⟩
def d_Extents___init__ : He.DefD := ⟨("Extents", some "__init__"), "__init__", "Extents.__init__", defArgs (inClass (top 27) 0), defBody (inClass (top 27) 0), defScope (inClass (top 27) 0), [], []⟩
def d_Extents_extent : He.DefD := ⟨("Extents", some "extent"), "extent", "Extents.extent", defArgs (inClass (top 27) 1), defBody (inClass (top 27) 1), defScope (inClass (top 27) 1), [], []⟩
def d_Extents_breakpoints : He.DefD := ⟨("Extents", some "breakpoints"), "breakpoints", "Extents.breakpoints", defArgs (inClass (top 27) 2), defBody (inClass (top 27) 2), defScope (inClass (top 27) 2), [], []⟩
def d_Extents_peaks : He.DefD := ⟨("Extents", some "peaks"), "peaks", "Extents.peaks", defArgs (inClass (top 27) 3), defBody (inClass (top 27) 3), defScope (inClass (top 27) 3), [], []⟩
def d_Extents_best_split : He.DefD := ⟨("Extents", some "best_split"), "best_split", "Extents.best_split", defArgs (inClass (top 27) 4), defBody (inClass (top 27) 4), defScope (inClass (top 27) 4), [], []⟩
def d_Extents_greatest : He.DefD := ⟨("Extents", some "greatest"), "greatest", "Extents.greatest", defArgs (inClass (top 27) 5), defBody (inClass (top 27) 5), defScope (inClass (top 27) 5), [], []⟩
def d_Extents_fewest_pairs : He.DefD := ⟨("Extents", some "fewest_pairs"), "fewest_pairs", "Extents.fewest_pairs", defArgs (inClass (top 27) 6), defBody (inClass (top 27) 6), defScope (inClass (top 27) 6), [], []⟩
def d_extents_for : He.DefD := ⟨("extents_for", none), "extents_for", "extents_for", defArgs (top 28), defBody (top 28), defScope (top 28), [], []⟩
def d_range_with_pairs : He.DefD := ⟨("range_with_pairs", none), "range_with_pairs", "range_with_pairs", defArgs (top 29), defBody (top 29), defScope (top 29), [], []⟩
def d_fewest_pairs : He.DefD := ⟨("fewest_pairs", none), "fewest_pairs", "fewest_pairs", defArgs (top 31), defBody (top 31), defScope (top 31), [], []⟩
def d_fewest_steps : He.DefD := ⟨("fewest_steps", none), "fewest_steps", "fewest_steps", defArgs (top 32), defBody (top 32), defScope (top 32), [], []⟩
def d_displacement_and_room : He.DefD := ⟨("displacement_and_room", none), "displacement_and_room", "displacement_and_room", defArgs (top 33), defBody (top 33), defScope (top 33), [], []⟩
def d_distance_or_none : He.DefD := ⟨("distance_or_none", none), "distance_or_none", "distance_or_none", defArgs (top 34), defBody (top 34), defScope (top 34), [], []⟩
def d_distance : He.DefD := ⟨("distance", none), "distance", "distance", defArgs (top 35), defBody (top 35), defScope (top 35), [], [("band", .non)]⟩
def d_pairs_for : He.DefD := ⟨("pairs_for", none), "pairs_for", "pairs_for", defArgs (top 37), defBody (top 37), defScope (top 37), [], []⟩
def d_sums_within : He.DefD := ⟨("sums_within", none), "sums_within", "sums_within", defArgs (top 38), defBody (top 38), defScope (top 38), [], []⟩
def d_sums_after : He.DefD := ⟨("sums_after", none), "sums_after", "sums_after", defArgs (top 39), defBody (top 39), defScope (top 39), [], [("band", .non)]⟩
def d_is_reachable : He.DefD := ⟨("is_reachable", none), "is_reachable", "is_reachable", defArgs (top 40), defBody (top 40), defScope (top 40), [], [("band", .non)]⟩
def d_extend_paths : He.DefD := ⟨("extend_paths", none), "extend_paths", "extend_paths", defArgs (top 44), defBody (top 44), defScope (top 44), [], []⟩
def d_count_paths : He.DefD := ⟨("count_paths", none), "count_paths", "count_paths", defArgs (top 45), defBody (top 45), defScope (top 45), [], [("band", .non)]⟩
def d_count_shortest_paths : He.DefD := ⟨("count_shortest_paths", none), "count_shortest_paths", "count_shortest_paths", defArgs (top 46), defBody (top 46), defScope (top 46), [], [("band", .non)]⟩
def d_good_steps : He.DefD := ⟨("good_steps", none), "good_steps", "good_steps", defArgs (top 48), defBody (top 48), defScope (top 48), [], []⟩
def d_next_steps : He.DefD := ⟨("next_steps", none), "next_steps", "next_steps", defArgs (top 49), defBody (top 49), defScope (top 49), [], [("band", .non)]⟩
def d__law_take : He.DefD := ⟨("_law_take", none), "_law_take", "_law_take", defArgs (top 52), defBody (top 52), defScope (top 52), [], []⟩
def d__law_pool : He.DefD := ⟨("_law_pool", none), "_law_pool", "_law_pool", defArgs (top 51), defBody (top 51), defScope (top 51), [], []⟩
def d__law_integer : He.DefD := ⟨("_law_integer", none), "_law_integer", "_law_integer", defArgs (top 53), defBody (top 53), defScope (top 53), [], []⟩
def d__law_inside : He.DefD := ⟨("_law_inside", none), "_law_inside", "_law_inside", defArgs (top 55), defBody (top 55), defScope (top 55), [], []⟩
def d__law_after : He.DefD := ⟨("_law_after", none), "_law_after", "_law_after", defArgs (top 56), defBody (top 56), defScope (top 56), [], []⟩
def d__law_ends : He.DefD := ⟨("_law_ends", none), "_law_ends", "_law_ends", defArgs (top 54), defBody (top 54), defScope (top 54), [], []⟩
def d__law_end : He.DefD := ⟨("_law_end", none), "_law_end", "_law_end", defArgs (top 57), defBody (top 57), defScope (top 57), [], []⟩
def d__law_table : He.DefD := ⟨("_law_table", none), "_law_table", "_law_table", defArgs (top 61), defBody (top 61), defScope (top 61), [], []⟩
def d__law_lengths_right : He.DefD := ⟨("_law_lengths_right", none), "_law_lengths_right", "_law_lengths_right", defArgs (top 58), defBody (top 58), defScope (top 58), [], []⟩
def d__law_shortest_right : He.DefD := ⟨("_law_shortest_right", none), "_law_shortest_right", "_law_shortest_right", defArgs (top 59), defBody (top 59), defScope (top 59), [], []⟩
def d__law_narrow_right : He.DefD := ⟨("_law_narrow_right", none), "_law_narrow_right", "_law_narrow_right", defArgs (top 60), defBody (top 60), defScope (top 60), [], []⟩
def d__law_middle_right : He.DefD := ⟨("_law_middle_right", none), "_law_middle_right", "_law_middle_right", defArgs (top 62), defBody (top 62), defScope (top 62), [], []⟩
def d__law_long_right : He.DefD := ⟨("_law_long_right", none), "_law_long_right", "_law_long_right", defArgs (top 63), defBody (top 63), defScope (top 63), [], []⟩
def d_law : He.DefD := ⟨("law", none), "law", "law", defArgs (top 64), defBody (top 64), defScope (top 64), [], []⟩
def fn : List He.DefD := [d_is_integer, d_check_integer, d_is_state, d_check_state, d_after_step, d_difference, d_Band_includes, d_Band_room, d_Band___init__, d_to_band, d_check_height, d_capped, d_depth_of, d_Extents___init__, d_Extents_extent, d_Extents_breakpoints, d_Extents_peaks, d_Extents_best_split, d_Extents_greatest, d_Extents_fewest_pairs, d_extents_for, d_range_with_pairs, d_fewest_pairs, d_fewest_steps, d_displacement_and_room, d_distance_or_none, d_distance, d_pairs_for, d_sums_within, d_sums_after, d_is_reachable, d_extend_paths, d_count_paths, d_count_shortest_paths, d_good_steps, d_next_steps, d__law_take, d__law_pool, d__law_integer, d__law_inside, d__law_after, d__law_ends, d__law_end, d__law_table, d__law_lengths_right, d__law_shortest_right, d__law_narrow_right, d__law_middle_right, d__law_long_right, d_law]
def fa1 : List He.Fa := [.glo "is_integer", .glo "check_integer", .glo "is_state", .glo "check_state", .glo "after_step", .glo "difference", .glo "to_band", .glo "check_height", .glo "capped", .glo "depth_of", .glo "extents_for", .glo "range_with_pairs", .glo "fewest_pairs", .glo "fewest_steps", .glo "displacement_and_room", .glo "distance_or_none", .glo "distance", .glo "pairs_for", .glo "sums_within", .glo "sums_after", .glo "is_reachable", .glo "extend_paths", .glo "count_paths", .glo "count_shortest_paths", .glo "good_steps", .glo "next_steps", .glo "_law_take", .glo "_law_pool", .glo "_law_integer", .glo "_law_inside"]
def fa2 : List He.Fa := [.glo "_law_after", .glo "_law_ends", .glo "_law_end", .glo "_law_table", .glo "_law_lengths_right", .glo "_law_shortest_right", .glo "_law_narrow_right", .glo "_law_middle_right", .glo "_law_long_right", .glo "law", .glo "Band", .glo "Extents", .glo "STEPS", .free "isinstance", .free "len", .free "all", .free "abs", .free "sum", .free "repr", .free "min", .free "max", .free "int", .free "bool", .free "tuple", .free "range", .int "MAX_PATH_STEPS" 10, .int "MAX_SHORTEST_STEPS" 14, .cls "Band", .cls "Extents", .noat "Band" "low_end"]
def fa3 : List He.Fa := [.noat "Band" "high_end", .noat "Extents" "width", .noat "Extents" "climb", .noat "Extents" "depth", .noat "Extents" "base", .noat "Extents" "limit", .meth "Band" "includes", .meth "Band" "room", .meth "Extents" "best_split", .meth "Extents" "breakpoints", .meth "Extents" "extent", .meth "Extents" "fewest_pairs", .meth "Extents" "greatest", .meth "Extents" "peaks", .mkr "Band", .mkr "Extents"]
def fa : List He.Fa := fa1 ++ (fa2 ++ (fa3))
def ex (K : PySem.W.Frag) : Bool := He.tupB K "STEPS" [.str "E", .str "W", .str "U", .str "D"] && (He.eqO (PySem.W.findIn K (.ref (cB K)) "__class__") (some (some (.builtin "object.__class__"))) && (He.eqO (PySem.W.specialIn K (.builtin "object.__class__") "__get__") (some (some (.builtin "getset_descriptor.__get__"))) &&
  (decide (PySem.W.takesIn K (.builtin "object.__class__") = some true) && (decide (PySem.W.mroIn K (cB K) (.type "object") = some true) && decide (PySem.W.kitOne K (.ref (cB K)) (.ref (cB K)) = some true)))))
def loose1 : List PySem.Str := ["_wall", "__name__", "WalkError", "InvalidState", "InvalidBand", "InvalidInteger", "OutsideBand", "Unreachable", "LimitExceeded", "STEPS", "is_integer", "check_integer", "is_state", "check_state", "after_step", "difference", "Band", "to_band", "check_height", "capped", "depth_of", "Extents", "extents_for", "range_with_pairs", "fewest_pairs", "fewest_steps", "displacement_and_room", "distance_or_none", "distance", "pairs_for"]
def loose2 : List PySem.Str := ["sums_within", "sums_after", "is_reachable", "MAX_PATH_STEPS", "MAX_SHORTEST_STEPS", "extend_paths", "count_paths", "count_shortest_paths", "good_steps", "next_steps", "_law_pool", "_law_take", "_law_integer", "_law_ends", "_law_inside", "_law_after", "_law_end", "_law_lengths_right", "_law_shortest_right", "_law_narrow_right", "_law_table", "_law_middle_right", "_law_long_right"]
def loose : List PySem.Str := loose1 ++ (loose2)
end Hs
set_option maxHeartbeats 0
namespace Hs
open PySem PySem.Spec PyProof.Rows L2
/-! ### the head: the run of the top, once in the kernel -/
abbrev R : PySem.W.OpenRow := PySem.W.OpenLaw.row PySem.Challenge.rw_heightsums_k51_whole_paths_and_their_fir
abbrev hk : PySem.W.Hook := He.hookX 4 fa fn [] [] ex
def ob (s : PySem.W.SharedT) : He.AlX := He.obsX 4 fa fn [] [] ex (HandSHeadRun.getT s)
theorem ob_eq (s : PySem.W.SharedT) : ob s = hk.obs s.abs := He.obsX_eq (HandSHeadRun.getT_eq s)
theorem run (w : World) : HandSHeadRun.RunEq R (PySem.W.view R.prog [64]) hk ob 6000 loose w := by
  intro os
  kernel_rfl
end Hs
set_option maxHeartbeats 4000000
namespace HS
/-! ### 1. States, steps, numbers of paths -/
abbrev St := Int × Int × Int
inductive Sp where | E | W | U | D deriving DecidableEq
def aft (q : St) : Sp → St
  | .E => (q.1 + 1, q.2.1, q.2.2 + q.2.1)
  | .W => (q.1 - 1, q.2.1, q.2.2 - q.2.1)
  | .U => (q.1, q.2.1 + 1, q.2.2)
  | .D => (q.1, q.2.1 - 1, q.2.2)
def inL (lo : Option Int) (h : Int) : Bool := match lo with | none => true | some l => decide (l ≤ h)
def inH (hi : Option Int) (h : Int) : Bool := match hi with | none => true | some l => decide (h ≤ l)
def ins (lo hi : Option Int) (h : Int) : Bool := inL lo h && inH hi h
/-- the later states after a step that stays in the band -/
def on (lo hi : Option Int) (f : St → Int) (q : St) : Int := if ins lo hi q.2.1 = true then f q else 0
def Tm (lo hi : Option Int) (f : St → Int) (q : St) : Int :=
  on lo hi f (aft q .E) + on lo hi f (aft q .W) + on lo hi f (aft q .U) + on lo hi f (aft q .D)
def one (e : St) (q : St) : Int := if q = e then 1 else 0
def cnt (lo hi : Option Int) : Nat → St → St → Int
  | 0, e => one e
  | n + 1, e => Tm lo hi (cnt lo hi n e)
/-- a path of n steps -/
inductive Pth (lo hi : Option Int) : Nat → St → St → Prop
  | nil (q) : Pth lo hi 0 q q
  | cons {n q e} (s : Sp) : ins lo hi (aft q s).2.1 = true → Pth lo hi n (aft q s) e → Pth lo hi (n + 1) q e
variable {lo hi : Option Int}
theorem on_nonneg {f : St → Int} (hf : ∀ q, 0 ≤ f q) (q : St) : 0 ≤ on lo hi f q := by
  unfold on; split
  · exact hf q
  · exact Int.le_refl 0
theorem Tm_nonneg {f : St → Int} (hf : ∀ q, 0 ≤ f q) (q : St) : 0 ≤ Tm lo hi f q := by
  have h1 := on_nonneg (lo := lo) (hi := hi) hf (aft q .E)
  have h2 := on_nonneg (lo := lo) (hi := hi) hf (aft q .W)
  have h3 := on_nonneg (lo := lo) (hi := hi) hf (aft q .U)
  have h4 := on_nonneg (lo := lo) (hi := hi) hf (aft q .D)
  unfold Tm; omega
theorem cnt_nonneg : ∀ (n : Nat) (e q : St), 0 ≤ cnt lo hi n e q
  | 0, e, q => by unfold cnt one; split <;> omega
  | n + 1, e, q => by
    show 0 ≤ Tm lo hi (cnt lo hi n e) q
    exact Tm_nonneg (cnt_nonneg n e) q
theorem on_pos {f : St → Int} {q : St} : 0 < on lo hi f q ↔ ins lo hi q.2.1 = true ∧ 0 < f q := by
  unfold on; split
  · rename_i h; simp [h]
  · rename_i h; simp [h]
theorem Tm_pos {f : St → Int} (hf : ∀ q, 0 ≤ f q) {q : St} : 0 < Tm lo hi f q ↔ ∃ s, ins lo hi (aft q s).2.1 = true ∧ 0 < f (aft q s) := by
  have h1 := on_nonneg (lo := lo) (hi := hi) hf (aft q .E)
  have h2 := on_nonneg (lo := lo) (hi := hi) hf (aft q .W)
  have h3 := on_nonneg (lo := lo) (hi := hi) hf (aft q .U)
  have h4 := on_nonneg (lo := lo) (hi := hi) hf (aft q .D)
  constructor
  · intro h
    unfold Tm at h
    by_cases c1 : 0 < on lo hi f (aft q .E)
    · exact ⟨.E, on_pos.mp c1⟩
    by_cases c2 : 0 < on lo hi f (aft q .W)
    · exact ⟨.W, on_pos.mp c2⟩
    by_cases c3 : 0 < on lo hi f (aft q .U)
    · exact ⟨.U, on_pos.mp c3⟩
    by_cases c4 : 0 < on lo hi f (aft q .D)
    · exact ⟨.D, on_pos.mp c4⟩
    omega
  · rintro ⟨s, h⟩
    have h' := on_pos.mpr h
    unfold Tm
    cases s <;> omega
theorem cnt_pos : ∀ {n : Nat} {e q : St}, 0 < cnt lo hi n e q ↔ Pth lo hi n q e
  | 0, e, q => by
    unfold cnt one
    constructor
    · intro h
      split at h
      · rename_i c; subst c; exact .nil _
      · omega
    · intro h; cases h; simp
  | n + 1, e, q => by
    show 0 < Tm lo hi (cnt lo hi n e) q ↔ _
    rw [Tm_pos (cnt_nonneg n e)]
    constructor
    · rintro ⟨s, h1, h2⟩; exact .cons s h1 (cnt_pos.mp h2)
    · intro h
      cases h with
      | cons s h1 h2 => exact ⟨s, h1, cnt_pos.mpr h2⟩
theorem cnt_zero {n : Nat} {e q : St} : cnt lo hi n e q = 0 ↔ ¬ Pth lo hi n q e := by
  rw [← cnt_pos]
  have := cnt_nonneg (lo := lo) (hi := hi) n e q
  omega

/-! ### 2. What a path can reach: the upper bound -/
theorem reach {n : Nat} {q e : St} (p : Pth lo hi n q e) (hq : ins lo hi q.2.1 = true) :
    ∃ a b u d M m : Int, 0 ≤ a ∧ 0 ≤ b ∧ 0 ≤ u ∧ 0 ≤ d ∧ (n : Int) = a + b + u + d ∧ e.1 - q.1 = a - b ∧ e.2.1 - q.2.1 = u - d ∧ m ≤ q.2.1 ∧ q.2.1 ≤ M ∧
      ins lo hi M = true ∧ ins lo hi m = true ∧ M - q.2.1 ≤ u ∧ q.2.1 - m ≤ d ∧ M - m ≤ max u d ∧ e.2.2 - q.2.2 ≤ a * M - b * m ∧ a * m - b * M ≤ e.2.2 - q.2.2 := by
  induction p with
  | nil q =>
    exact ⟨0, 0, 0, 0, q.2.1, q.2.1, by omega, by omega, by omega, by omega, by simp, by omega, by omega, by omega, by omega, hq, hq, by omega, by omega, by omega, by simp, by simp⟩
  | @cons n q e s h1 h2 ih =>
    obtain ⟨a, b, u, d, M, m, ha, hb, hu, hd, hn, hx, hh, hm, hM, iM, im, hMu, hmd, hR, hS, hS'⟩ := ih h1
    cases s with
    | E =>
      simp only [aft] at *
      refine ⟨a + 1, b, u, d, M, m, by omega, hb, hu, hd, by omega, by omega, hh, hm, hM, iM, im, hMu, hmd, hR, ?_, ?_⟩
      · rw [Int.add_mul]; omega
      · rw [Int.add_mul]; omega
    | W =>
      simp only [aft] at *
      refine ⟨a, b + 1, u, d, M, m, ha, by omega, hu, hd, by omega, by omega, hh, hm, hM, iM, im, hMu, hmd, hR, ?_, ?_⟩
      · rw [Int.add_mul]; omega
      · rw [Int.add_mul]; omega
    | U =>
      simp only [aft] at *
      refine ⟨a, b, u + 1, d, M, min m q.2.1, ha, hb, by omega, hd, by omega, hx, by omega, by omega, by omega, iM, ?_, by omega, by omega, by omega, ?_, ?_⟩
      · rcases Int.le_total m q.2.1 with c | c
        · rw [Int.min_eq_left c]; exact im
        · rw [Int.min_eq_right c]; exact hq
      · have := Int.mul_le_mul_of_nonneg_left (show min m q.2.1 ≤ m by omega) hb
        omega
      · have := Int.mul_le_mul_of_nonneg_left (show min m q.2.1 ≤ m by omega) ha
        omega
    | D =>
      simp only [aft] at *
      refine ⟨a, b, u, d + 1, max M q.2.1, m, ha, hb, hu, by omega, by omega, hx, by omega, by omega, by omega, ?_, im, by omega, by omega, by omega, ?_, ?_⟩
      · rcases Int.le_total M q.2.1 with c | c
        · rw [Int.max_eq_right c]; exact hq
        · rw [Int.max_eq_left c]; exact iM
      · have := Int.mul_le_mul_of_nonneg_left (show M ≤ max M q.2.1 by omega) ha
        omega
      · have := Int.mul_le_mul_of_nonneg_left (show M ≤ max M q.2.1 by omega) hb
        omega
end HS
set_option maxHeartbeats 4000000
namespace HS
/-! ### 3. Extents: the mirror of the class -/
abbrev Room := Option Int × Option Int
def capI (n : Int) : Option Int → Int
  | none => n
  | some l => min n l
def depthOf : Room → Option Int
  | (some a, some c) => some (a + c)
  | _ => none
structure Xt where
  w : Int
  climb : Int
  depth : Option Int
  base : Int
  limit : Option Int
def mkXt (x h : Int) (room : Room) (sign : Int) : Xt :=
  if decide (sign ≥ 0) = decide (x ≥ 0) then ⟨x.natAbs, h.natAbs, depthOf room, max h 0, room.2⟩ else ⟨x.natAbs, h.natAbs, depthOf room, max (-h) 0, room.1⟩
namespace Xt
variable (E : Xt)
def extent (j v : Int) : Int := E.w * capI (E.base + v) E.limit + (j - v) * capI (E.climb + v) E.depth
def first (j : Int) : Int := match E.limit with | none => j | some l => min j (l - E.base)
def second (j : Int) : Int := match E.depth with | none => j | some l => min j (l - E.climb)
def peak1 (j : Int) : Int := min (max ((E.w + j - E.climb) / 2) 0) (E.first j)
def peak2 (j : Int) : Int := min (max ((j - E.climb) / 2) (E.first j)) (E.second j)
def best (j : Int) : Int := if E.extent j (E.peak1 j) ≥ E.extent j (E.peak2 j) then E.peak1 j else E.peak2 j
def greatest (j : Int) : Int := E.extent j (E.best j)
/-- a well made Xt -/
structure Ok : Prop where
  w0 : 0 ≤ E.w
  c0 : 0 ≤ E.climb
  b0 : 0 ≤ E.base
  dl : ∀ l, E.depth = some l → E.climb ≤ l
  lb : ∀ l, E.limit = some l → E.base ≤ l
  ld : ∀ l, E.depth = some l → ∃ l', E.limit = some l' ∧ l' - E.base ≤ l - E.climb
variable {E}
theorem first_lo (k : E.Ok) {j : Int} (hj : 0 ≤ j) : 0 ≤ E.first j ∧ E.first j ≤ j := by
  unfold first
  split
  · omega
  · rename_i l e; have := k.lb l e; omega
theorem second_lo (k : E.Ok) {j : Int} (hj : 0 ≤ j) : E.first j ≤ E.second j ∧ E.second j ≤ j := by
  have h1 := first_lo k hj
  unfold second
  split
  · omega
  · rename_i l e
    obtain ⟨l', e', h⟩ := k.ld l e
    unfold first
    rw [e']
    simp only
    omega
theorem fdiv2 (x : Int) : 2 * (x / 2) ≤ x ∧ x ≤ 2 * (x / 2) + 1 := by
  omega
theorem peak1_rg (k : E.Ok) {j : Int} (hj : 0 ≤ j) : 0 ≤ E.peak1 j ∧ E.peak1 j ≤ E.first j := by
  have := first_lo k hj
  unfold peak1; omega
theorem peak2_rg (k : E.Ok) {j : Int} (hj : 0 ≤ j) : E.first j ≤ E.peak2 j ∧ E.peak2 j ≤ E.second j := by
  have := first_lo k hj
  have := second_lo k hj
  unfold peak2; omega
theorem best_rg (k : E.Ok) {j : Int} (hj : 0 ≤ j) : 0 ≤ E.best j ∧ E.best j ≤ j := by
  have h1 := first_lo k hj
  have h2 := second_lo k hj
  have h3 := peak1_rg k hj
  have h4 := peak2_rg k hj
  unfold best; split <;> omega
/-- concave: t is between v and the top, or the top's nearest -/
theorem conc {t v D : Int} (h : (v ≤ t ∧ t + v ≤ D) ∨ (t ≤ v ∧ D ≤ t + v)) : 0 ≤ (t - v) * (D - t - v) := by
  rcases h with ⟨h1, h2⟩ | ⟨h1, h2⟩
  · exact Int.mul_nonneg (by omega) (by omega)
  · have := Int.mul_nonneg (show 0 ≤ v - t by omega) (show 0 ≤ t + v - D by omega)
    have e : (v - t) * (t + v - D) = (t - v) * (D - t - v) := by grind
    omega
theorem ext_low (k : E.Ok) {j v : Int} (hj : 0 ≤ j) (h0 : 0 ≤ v) (hv : v ≤ E.first j) : E.extent j v = E.w * (E.base + v) + (j - v) * (E.climb + v) := by
  have e1 : capI (E.base + v) E.limit = E.base + v := by
    unfold first at hv
    cases e : E.limit with
    | none => rfl
    | some l => rw [e] at hv; simp only [capI] at *; omega
  have e2 : capI (E.climb + v) E.depth = E.climb + v := by
    have := second_lo k hj
    unfold second at this
    cases e : E.depth with
    | none => rfl
    | some l => rw [e] at this; simp only [capI] at *; omega
  unfold extent; rw [e1, e2]
theorem ext_mid (k : E.Ok) {j v l : Int} (hj : 0 ≤ j) (e : E.limit = some l) (hv0 : l - E.base ≤ v) (hv : v ≤ E.second j) : E.extent j v = E.w * l + (j - v) * (E.climb + v) := by
  have e1 : capI (E.base + v) E.limit = l := by
    rw [e]; simp only [capI]; omega
  have e2 : capI (E.climb + v) E.depth = E.climb + v := by
    unfold second at hv
    cases e : E.depth with
    | none => rfl
    | some l => rw [e] at hv; simp only [capI] at *; omega
  unfold extent; rw [e1, e2]
theorem ext_high (k : E.Ok) {j v l g : Int} (hj : 0 ≤ j) (e : E.limit = some l) (eg : E.depth = some g) (hv0 : l - E.base ≤ v) (hv : g - E.climb ≤ v) : E.extent j v = E.w * l + (j - v) * g := by
  have e1 : capI (E.base + v) E.limit = l := by
    rw [e]; simp only [capI]; omega
  have e2 : capI (E.climb + v) E.depth = g := by
    rw [eg]; simp only [capI] at *; omega
  unfold extent; rw [e1, e2]
theorem le_peak1 (k : E.Ok) {j v : Int} (hj : 0 ≤ j) (h0 : 0 ≤ v) (hv : v ≤ E.first j) : E.extent j v ≤ E.extent j (E.peak1 j) := by
  have r := peak1_rg k hj
  rw [ext_low k hj h0 hv, ext_low k hj r.1 r.2]
  have c : 0 ≤ (E.peak1 j - v) * ((E.w + j - E.climb) - E.peak1 j - v) := by
    apply conc
    have := fdiv2 (E.w + j - E.climb)
    unfold peak1 at *
    omega
  have e : (E.w * (E.base + E.peak1 j) + (j - E.peak1 j) * (E.climb + E.peak1 j)) - (E.w * (E.base + v) + (j - v) * (E.climb + v)) = (E.peak1 j - v) * ((E.w + j - E.climb) - E.peak1 j - v) := by grind
  omega
theorem le_peak2 (k : E.Ok) {j v l : Int} (hj : 0 ≤ j) (e : E.limit = some l) (hl : l - E.base ≤ j) (h0 : E.first j ≤ v) (hv : v ≤ E.second j) : E.extent j v ≤ E.extent j (E.peak2 j) := by
  have r := peak2_rg k hj
  have hf : E.first j = l - E.base := by unfold first; rw [e]; simp only; omega
  rw [ext_mid k hj e (by omega) hv, ext_mid k hj e (by omega) r.2]
  have c : 0 ≤ (E.peak2 j - v) * ((j - E.climb) - E.peak2 j - v) := by
    apply conc
    have := fdiv2 (j - E.climb)
    unfold peak2 at *
    omega
  have e : (E.w * l + (j - E.peak2 j) * (E.climb + E.peak2 j)) - (E.w * l + (j - v) * (E.climb + v)) = (E.peak2 j - v) * ((j - E.climb) - E.peak2 j - v) := by grind
  omega
theorem le_greatest (k : E.Ok) {j v : Int} (h0 : 0 ≤ v) (hv : v ≤ j) : E.extent j v ≤ E.greatest j := by
  have hj : 0 ≤ j := by omega
  have g1 : E.extent j (E.peak1 j) ≤ E.greatest j := by unfold greatest best; split <;> omega
  have g2 : E.extent j (E.peak2 j) ≤ E.greatest j := by unfold greatest best; split <;> omega
  have hs := second_lo k hj
  by_cases c1 : v ≤ E.first j
  · exact Int.le_trans (le_peak1 k hj h0 c1) g1
  · cases e : E.limit with
    | none => unfold first at c1; rw [e] at c1; simp only at c1; omega
    | some l =>
      have hl : l - E.base ≤ j := by unfold first at c1; rw [e] at c1; simp only at c1; omega
      have hf : E.first j = l - E.base := by unfold first; rw [e]; simp only; omega
      by_cases c2 : v ≤ E.second j
      · exact Int.le_trans (le_peak2 k hj e hl (by omega) c2) g2
      · cases eg : E.depth with
        | none => unfold second at c2; rw [eg] at c2; simp only at c2; omega
        | some g =>
          have hg : E.second j = g - E.climb := by unfold second at c2 ⊢; rw [eg] at c2 ⊢; simp only at c2 ⊢; omega
          have s1 := le_peak2 k hj e hl hs.1 (Int.le_refl _)
          refine Int.le_trans ?_ (Int.le_trans s1 g2)
          rw [ext_high k hj e eg (by omega) (by omega), ext_high k hj e eg (by omega) (by omega)]
          have d0 := k.dl g eg
          have c0 := k.c0
          have := Int.mul_le_mul_of_nonneg_right (show j - v ≤ j - E.second j by omega) (show 0 ≤ g by omega)
          omega
theorem capI_nonneg {n : Int} {l : Option Int} (hn : 0 ≤ n) (hl : ∀ m, l = some m → 0 ≤ m) : 0 ≤ capI n l := by
  cases l with
  | none => exact hn
  | some m => have := hl m rfl; simp only [capI]; omega
theorem ext_nonneg (k : E.Ok) {j v : Int} (h0 : 0 ≤ v) (hv : v ≤ j) : 0 ≤ E.extent j v := by
  have := k.c0
  have := k.b0
  have a1 : 0 ≤ capI (E.base + v) E.limit := capI_nonneg (by omega) fun m e => by have := k.lb m e; omega
  have a2 : 0 ≤ capI (E.climb + v) E.depth := capI_nonneg (by omega) fun m e => by have := k.dl m e; omega
  have := Int.mul_nonneg k.w0 a1
  have := Int.mul_nonneg (show 0 ≤ j - v by omega) a2
  unfold extent; omega
theorem greatest_nonneg (k : E.Ok) {j : Int} (hj : 0 ≤ j) : 0 ≤ E.greatest j := ext_nonneg k (best_rg k hj).1 (best_rg k hj).2
theorem greatest_mono (k : E.Ok) {i j : Int} (hi : 0 ≤ i) (hij : i ≤ j) : E.greatest i ≤ E.greatest j := by
  have r := best_rg k hi
  refine Int.le_trans ?_ (le_greatest k (j := j) r.1 (by omega))
  have := k.c0
  have a2 : 0 ≤ capI (E.climb + E.best i) E.depth := capI_nonneg (by omega) fun m e => by have := k.dl m e; omega
  have := Int.mul_le_mul_of_nonneg_right (show i - E.best i ≤ j - E.best i by omega) a2
  unfold greatest extent; omega
/-- more pairs reach further, unless the band has one height -/
theorem greatest_far (k : E.Ok) (hd : E.depth ≠ some 0) {j : Int} (hj : 1 ≤ j) : j - 1 ≤ E.greatest j := by
  refine Int.le_trans ?_ (le_greatest k (j := j) (v := 1) (by omega) hj)
  have := k.c0
  have := k.b0
  have a1 : 0 ≤ capI (E.base + 1) E.limit := capI_nonneg (by omega) fun m e => by have := k.lb m e; omega
  have a2 : 1 ≤ capI (E.climb + 1) E.depth := by
    cases e : E.depth with
    | none => simp only [capI]; omega
    | some g =>
      have := k.dl g e
      have : g ≠ 0 := fun z => hd (by rw [e, z])
      simp only [capI]; omega
  have := Int.mul_nonneg k.w0 a1
  have := Int.mul_le_mul_of_nonneg_left a2 (show 0 ≤ j - 1 by omega)
  unfold extent; omega
/-- what the search for the fewest pairs finds -/
def Few (E : Xt) (t : Int) : Option Int → Prop
  | none => E.depth = some 0 ∧ E.greatest 0 < t
  | some j => 0 ≤ j ∧ t ≤ E.greatest j ∧ (j = 0 ∨ E.greatest (j - 1) < t)
end Xt
end HS
set_option maxHeartbeats 4000000
namespace HS
/-! ### 4. A path's sum lies within the extents -/
def roomOf (lo hi : Option Int) (h : Int) : Room := (lo.map fun l => h - l, hi.map fun l => l - h)
variable {lo hi : Option Int}
theorem ins_iff {h : Int} : ins lo hi h = true ↔ (∀ l, lo = some l → l ≤ h) ∧ (∀ l, hi = some l → h ≤ l) := by
  unfold ins inL inH
  cases lo <;> cases hi <;> simp
theorem mkXt_ok {x H h s : Int} (h1 : ins lo hi h = true) (h2 : ins lo hi (h + H) = true) : (mkXt x H (roomOf lo hi h) s).Ok := by
  rw [ins_iff] at h1 h2
  unfold mkXt roomOf
  cases lo <;> cases hi <;> (split <;> (constructor <;> simp [depthOf] at * <;> omega))
/-- a state's displacement from another -/
def dX (q e : St) : Int := e.1 - q.1
def dH (q e : St) : Int := e.2.1 - q.2.1
def dS (q e : St) : Int := e.2.2 - q.2.2 - q.2.1 * (e.1 - q.1)
def exOf (lo hi : Option Int) (q e : St) (sign : Int) : Xt := mkXt (dX q e) (dH q e) (roomOf lo hi q.2.1) sign
theorem exOf_ok {q e : St} {s : Int} (h1 : ins lo hi q.2.1 = true) (h2 : ins lo hi e.2.1 = true) : (exOf lo hi q e s).Ok :=
  mkXt_ok h1 (by unfold dH; rw [show q.2.1 + (e.2.1 - q.2.1) = e.2.1 by omega]; exact h2)
def bare (q e : St) : Int := (dX q e).natAbs + (dH q e).natAbs
/-- products grow with both factors -/
theorem mul_mono {a b d : Int} (ha : 0 ≤ a) (hb : b ≤ d) : a * b ≤ a * d := Int.mul_le_mul_of_nonneg_left hb ha
theorem upper_arith {a b h M m S X : Int} (hx : X = a - b) (hS : S ≤ a * M - b * m) : S - h * X ≤ a * (M - h) + b * (h - m) := by
  subst hx
  have : a * (M - h) + b * (h - m) = a * M - b * m - h * (a - b) := by grind
  omega
theorem lower_arith {a b h M m S X : Int} (hx : X = a - b) (hS : a * m - b * M ≤ S) : -(S - h * X) ≤ a * (h - m) + b * (M - h) := by
  subst hx
  have : a * (h - m) + b * (M - h) = -(a * m - b * M) + h * (a - b) := by grind
  omega
/-- the four forms that an extent may have -/
theorem extent_eq {x H j v : Int} {room : Room} {s : Int} :
    (mkXt x H room s).extent j v = (if decide (s ≥ 0) = decide (x ≥ 0) then (x.natAbs : Int) * capI (max H 0 + v) room.2 else (x.natAbs : Int) * capI (max (-H) 0 + v) room.1) + (j - v) * capI ((H.natAbs : Int) + v) (depthOf room) := by
  unfold mkXt Xt.extent
  split <;> rfl
theorem path_within {n : Nat} {q e : St} (p : Pth lo hi n q e) (hq : ins lo hi q.2.1 = true) (he : ins lo hi e.2.1 = true) :
    ∃ j v : Int, 0 ≤ v ∧ v ≤ j ∧ (n : Int) = bare q e + 2 * j ∧ (∀ s, s ≥ 0 → dS q e ≤ (exOf lo hi q e s).extent j v) ∧ (∀ s, s < 0 → - dS q e ≤ (exOf lo hi q e s).extent j v) := by
  obtain ⟨a, b, u, d, M, m, ha, hb, hu, hd, hn, hx, hh, hm, hM, iM, im, hMu, hmd, hR, hS, hS'⟩ := reach p hq
  refine ⟨min a b + min u d, min u d, by omega, by omega, by unfold bare dX dH; omega, ?_, ?_⟩
  all_goals
    intro s hs
    have U := upper_arith (h := q.2.1) hx hS
    have L := lower_arith (h := q.2.1) hx hS'
    unfold exOf dX dH
    unfold dS
    rw [extent_eq]
    rw [hx] at *
    rw [hh]
    have cR : M - m ≤ capI (((u - d).natAbs : Int) + min u d) (depthOf (roomOf lo hi q.2.1)) := by
      rw [ins_iff] at iM im
      unfold roomOf
      cases lo <;> cases hi <;> simp [depthOf, capI] at * <;> omega
    have cT : M - q.2.1 ≤ capI (max (u - d) 0 + min u d) (roomOf lo hi q.2.1).2 := by
      rw [ins_iff] at iM im
      unfold roomOf
      cases hi <;> simp [capI] at * <;> omega
    have cB : q.2.1 - m ≤ capI (max (-(u - d)) 0 + min u d) (roomOf lo hi q.2.1).1 := by
      rw [ins_iff] at iM im
      unfold roomOf
      cases lo <;> simp [capI] at * <;> omega
    generalize capI (((u - d).natAbs : Int) + min u d) (depthOf (roomOf lo hi q.2.1)) = R at *
    generalize capI (max (u - d) 0 + min u d) (roomOf lo hi q.2.1).2 = T at *
    generalize capI (max (-(u - d)) 0 + min u d) (roomOf lo hi q.2.1).1 = B at *
    generalize q.2.1 = h at *
    clear hS hS' p iM im hMu hmd hR hq he
    have ej : min a b + min u d - min u d = min a b := by omega
    rw [ej]
  · by_cases hab : 0 ≤ a - b
    · rw [if_pos (by simp [hs]; omega)]
      have e1 : ((a - b).natAbs : Int) = a - b := by omega
      have e2 : min a b = b := by omega
      rw [e1, e2]
      have g1 := mul_mono (show 0 ≤ a - b by omega) cT
      have g2 := mul_mono hb cR
      have : a * (M - h) + b * (h - m) = (a - b) * (M - h) + b * (M - m) := by grind
      omega
    · rw [if_neg (by simp [hs]; omega)]
      have e1 : ((a - b).natAbs : Int) = b - a := by omega
      have e2 : min a b = a := by omega
      rw [e1, e2]
      have g1 := mul_mono (show 0 ≤ b - a by omega) cB
      have g2 := mul_mono ha cR
      have : a * (M - h) + b * (h - m) = (b - a) * (h - m) + a * (M - m) := by grind
      omega
  · by_cases hab : 0 ≤ a - b
    · rw [if_neg (by simp; omega)]
      have e1 : ((a - b).natAbs : Int) = a - b := by omega
      have e2 : min a b = b := by omega
      rw [e1, e2]
      have g1 := mul_mono (show 0 ≤ a - b by omega) cB
      have g2 := mul_mono hb cR
      have : a * (h - m) + b * (M - h) = (a - b) * (h - m) + b * (M - m) := by grind
      omega
    · rw [if_pos (by simp; omega)]
      have e1 : ((a - b).natAbs : Int) = b - a := by omega
      have e2 : min a b = a := by omega
      rw [e1, e2]
      have g1 := mul_mono (show 0 ≤ b - a by omega) cT
      have g2 := mul_mono ha cR
      have : a * (h - m) + b * (M - h) = (b - a) * (M - h) + a * (M - m) := by grind
      omega
end HS
set_option maxHeartbeats 4000000
namespace HS
/-! ### 5. Paths with given steps and a given sum -/
variable {lo hi : Option Int}
def dx : Sp → Int | .E => 1 | .W => -1 | _ => 0
def dh : Sp → Int | .U => 1 | .D => -1 | _ => 0
theorem aft_eq (q : St) (s : Sp) : aft q s = (q.1 + dx s, q.2.1 + dh s, q.2.2 + dx s * q.2.1) := by
  cases s <;> simp [aft, dx, dh] <;> omega
def hts : Int → List Sp → List Int
  | h, [] => [h]
  | h, s :: p => h :: hts (h + dh s) p
def sm : Int → List Sp → Int
  | _, [] => 0
  | h, s :: p => dx s * h + sm (h + dh s) p
def xs : List Sp → Int
  | [] => 0
  | s :: p => dx s + xs p
def hs : List Sp → Int
  | [] => 0
  | s :: p => dh s + hs p
theorem hts_head (h : Int) (p : List Sp) : h ∈ hts h p := by cases p <;> simp [hts]
theorem run : ∀ (p : List Sp) (q : St), (∀ y ∈ hts q.2.1 p, ins lo hi y = true) → Pth lo hi p.length q (q.1 + xs p, q.2.1 + hs p, q.2.2 + sm q.2.1 p)
  | [], q, _ => by
    have : (q.1 + xs [], q.2.1 + hs [], q.2.2 + sm q.2.1 []) = q := by simp [xs, hs, sm]
    rw [this]; exact .nil q
  | s :: p, q, h => by
    have e := aft_eq q s
    have h2 : (aft q s).2.1 = q.2.1 + dh s := by rw [e]
    have r := run p (aft q s) (by
      intro y hy
      rw [h2] at hy
      exact h y (by unfold hts; exact List.mem_cons_of_mem _ hy))
    refine Pth.cons s ?_ (Eq.mp ?_ r)
    · rw [h2]; exact h _ (by unfold hts; exact List.mem_cons_of_mem _ (hts_head _ _))
    · congr 1
      rw [e]
      simp [xs, hs, sm]
      omega
theorem insert {c : Sp} (hc : dh c = 0) : ∀ (p : List Sp) (h y : Int), y ∈ hts h p → ∃ p', p'.length = p.length + 1 ∧ (∀ z, z ∈ hts h p' ↔ z ∈ hts h p) ∧ xs p' = xs p + dx c ∧ hs p' = hs p ∧ sm h p' = sm h p + dx c * y
  | p, h, y, hy => by
    by_cases e : y = h
    · subst e
      refine ⟨c :: p, by simp, ?_, by simp [xs]; omega, by simp [hs, hc], by simp [sm, hc]; omega⟩
      intro z
      simp only [hts, hc, Int.add_zero, List.mem_cons]
      constructor
      · rintro (rfl | q)
        · exact hts_head _ _
        · exact q
      · exact fun q => .inr q
    · cases p with
      | nil => simp [hts] at hy; exact absurd hy e
      | cons s p =>
        simp only [hts, List.mem_cons] at hy
        rcases hy with hy | hy
        · exact absurd hy e
        · obtain ⟨p', h1, h2, h3, h4, h5⟩ := insert hc p _ y hy
          refine ⟨s :: p', by simp [h1], ?_, by simp [xs, h3]; omega, by simp [hs, h4], by simp [sm, h5]; omega⟩
          intro z
          simp only [hts, List.mem_cons, h2]
theorem fill {h B T : Int} {p : List Sp} (hBT : B ≤ T) (hv : ∀ y, B ≤ y → y ≤ T → y ∈ hts h p) (h0 : sm h p = 0) (hx : xs p = 0) : ∀ (a b : Nat) (S : Int), (a : Int) * B - (b : Int) * T ≤ S → S ≤ (a : Int) * T - (b : Int) * B →
    ∃ p', p'.length = p.length + a + b ∧ (∀ z, z ∈ hts h p' ↔ z ∈ hts h p) ∧ xs p' = (a : Int) - b ∧ hs p' = hs p ∧ sm h p' = S
  | 0, 0, S, h1, h2 => ⟨p, by simp, fun _ => Iff.rfl, by simp [hx], rfl, by simp at h1 h2; omega⟩
  | a + 1, b, S, h1, h2 => by
    have e1 : ((a + 1 : Nat) : Int) * B = (a : Int) * B + B := by rw [Int.natCast_add, Int.add_mul]; simp
    have e2 : ((a + 1 : Nat) : Int) * T = (a : Int) * T + T := by rw [Int.natCast_add, Int.add_mul]; simp
    have le : (a : Int) * B - (b : Int) * T ≤ (a : Int) * T - (b : Int) * B := by
      have := mul_mono (Int.natCast_nonneg a) hBT
      have := mul_mono (Int.natCast_nonneg b) hBT
      omega
    rw [e1] at h1
    rw [e2] at h2
    obtain ⟨y, hy1, hy2, hy3, hy4⟩ : ∃ y, B ≤ y ∧ y ≤ T ∧ (a : Int) * B - (b : Int) * T ≤ S - y ∧ S - y ≤ (a : Int) * T - (b : Int) * B :=
      ⟨max B (S - ((a : Int) * T - (b : Int) * B)), by omega, by omega, by omega, by omega⟩
    obtain ⟨p', l, hz, hx', hh, hs'⟩ := fill hBT hv h0 hx a b (S - y) hy3 hy4
    obtain ⟨p2, l2, hz2, hx2, hh2, hs2⟩ := insert (c := .E) rfl p' h y ((hz y).mpr (hv y hy1 hy2))
    exact ⟨p2, by omega, fun z => (hz2 z).trans (hz z), by rw [hx2, hx']; simp [dx]; omega, by rw [hh2, hh], by rw [hs2, hs']; simp [dx]⟩
  | 0, b + 1, S, h1, h2 => by
    have e1 : ((b + 1 : Nat) : Int) * B = (b : Int) * B + B := by rw [Int.natCast_add, Int.add_mul]; simp
    have e2 : ((b + 1 : Nat) : Int) * T = (b : Int) * T + T := by rw [Int.natCast_add, Int.add_mul]; simp
    have le := mul_mono (Int.natCast_nonneg b) hBT
    rw [e2] at h1
    rw [e1] at h2
    have z1 : ((0 : Nat) : Int) * B = 0 := by simp
    have z2 : ((0 : Nat) : Int) * T = 0 := by simp
    rw [z1] at h1
    rw [z2] at h2
    obtain ⟨y, hy1, hy2, hy3, hy4⟩ : ∃ y, B ≤ y ∧ y ≤ T ∧ ((0 : Nat) : Int) * B - (b : Int) * T ≤ S + y ∧ S + y ≤ ((0 : Nat) : Int) * T - (b : Int) * B := by
      rw [z1, z2]
      exact ⟨min T (-((b : Int) * B) - S), by omega, by omega, by omega, by omega⟩
    obtain ⟨p', l, hz, hx', hh, hs'⟩ := fill hBT hv h0 hx 0 b (S + y) hy3 hy4
    obtain ⟨p2, l2, hz2, hx2, hh2, hs2⟩ := insert (c := .W) rfl p' h y ((hz y).mpr (hv y hy1 hy2))
    exact ⟨p2, by omega, fun z => (hz2 z).trans (hz z), by rw [hx2, hx']; simp [dx]; omega, by rw [hh2, hh], by rw [hs2, hs']; simp [dx]; omega⟩
/-- a path of U and D steps alone: from h to h', n steps, through the heights of V -/
def Ver (h h' : Int) (n : Nat) (V : Int → Prop) : Prop := ∃ p, p.length = n ∧ xs p = 0 ∧ h + hs p = h' ∧ sm h p = 0 ∧ ∀ z, z ∈ hts h p ↔ V z
theorem app : ∀ (p p' : List Sp) (h : Int), (p ++ p').length = p.length + p'.length ∧ xs (p ++ p') = xs p + xs p' ∧ hs (p ++ p') = hs p + hs p' ∧ sm h (p ++ p') = sm h p + sm (h + hs p) p' ∧ ∀ z, z ∈ hts h (p ++ p') ↔ z ∈ hts h p ∨ z ∈ hts (h + hs p) p'
  | [], p', h => by
    refine ⟨by simp, by simp [xs], by simp [hs], by simp [hs, sm], fun z => ?_⟩
    simp only [List.nil_append, hs, Int.add_zero, hts, List.mem_singleton]
    constructor
    · exact .inr
    · rintro (rfl | q)
      · exact hts_head _ _
      · exact q
  | s :: p, p', h => by
    obtain ⟨h1, h2, h3, h4, h5⟩ := app p p' (h + dh s)
    refine ⟨by simp; omega, by simp [xs, h2]; omega, by simp [hs, h3]; omega, by simp [hs, sm, h4]; rw [Int.add_assoc h]; omega, fun z => ?_⟩
    simp only [List.cons_append, hts, List.mem_cons, h5, hs, ← Int.add_assoc, or_assoc]
theorem Ver.trans {h h' h2 : Int} {n n' : Nat} {V V' : Int → Prop} : Ver h h' n V → Ver h' h2 n' V' → Ver h h2 (n + n') fun z => V z ∨ V' z
  | ⟨p, l, x, e, s, v⟩, ⟨p', l', x', e', s', v'⟩ => by
    obtain ⟨h1, h2, h3, h4, h5⟩ := app p p' h
    refine ⟨p ++ p', by omega, by omega, by omega, by rw [h4, e]; omega, fun z => ?_⟩
    rw [h5, e, v, v']
theorem Ver.mono {h h' : Int} {n n' : Nat} {V V' : Int → Prop} (k : Ver h h' n V) (e : n = n') (v : ∀ z, V z ↔ V' z) : Ver h h' n' V' := by
  obtain ⟨p, l, x, e', s, w⟩ := k
  exact ⟨p, by omega, x, e', s, fun z => (w z).trans (v z)⟩
theorem Ver.up : ∀ (k : Nat) (h : Int), Ver h (h + k) k fun z => h ≤ z ∧ z ≤ h + k
  | 0, h => ⟨[], rfl, rfl, by simp [hs], rfl, fun z => by simp [hts]; omega⟩
  | k + 1, h => by
    obtain ⟨p, l, x, e, s, v⟩ := Ver.up k (h + 1)
    refine ⟨.U :: p, by simp [l], by simp [xs, dx, x], by simp [hs, dh]; omega, by simp [sm, dx, dh, s], fun z => ?_⟩
    simp only [hts, dh, List.mem_cons, v]; omega
theorem Ver.down : ∀ (k : Nat) (h : Int), Ver h (h - k) k fun z => h - k ≤ z ∧ z ≤ h
  | 0, h => ⟨[], rfl, rfl, by simp [hs], rfl, fun z => by simp [hts]; omega⟩
  | k + 1, h => by
    obtain ⟨p, l, x, e, s, v⟩ := Ver.down k (h - 1)
    refine ⟨.D :: p, by simp [l], by simp [xs, dx, x], by simp [hs, dh]; omega, ?_, fun z => ?_⟩
    · simp [sm, dx, dh]; rw [← Int.sub_eq_add_neg]; exact s
    · simp only [hts, dh, List.mem_cons, ← Int.sub_eq_add_neg, v]; omega
theorem Ver.spareU : ∀ (k : Nat) (h : Int), Ver h h (2 * k) fun z => z = h ∨ (0 < k ∧ z = h + 1)
  | 0, h => ⟨[], rfl, rfl, by simp [hs], rfl, fun z => by simp [hts]⟩
  | k + 1, h => ((Ver.up 1 h).trans ((show Ver (h + (1 : Nat)) h 1 (fun z => h ≤ z ∧ z ≤ h + 1) from (by have := Ver.down 1 (h + 1); simpa using this)).trans (Ver.spareU k h))).mono (by omega) fun z => by simp; omega
theorem Ver.spareD : ∀ (k : Nat) (h : Int), Ver h h (2 * k) fun z => z = h ∨ (0 < k ∧ z = h - 1)
  | 0, h => ⟨[], rfl, rfl, by simp [hs], rfl, fun z => by simp [hts]⟩
  | k + 1, h => ((Ver.down 1 h).trans ((show Ver (h - (1 : Nat)) h 1 (fun z => h - 1 ≤ z ∧ z ≤ h) from (by have := Ver.up 1 (h - 1); simpa using this)).trans (Ver.spareD k h))).mono (by omega) fun z => by simp; omega
theorem cast_to {h : Int} {n : Nat} {h' h2 : Int} {V : Int → Prop} (k : Ver h h' n V) (e : h' = h2) : Ver h h2 n V := e ▸ k
/-- the vertical path through all heights from B to T -/
theorem skeleton {h h' B T : Int} {u d : Nat} (e : h' = h + u - d) (h1 : B ≤ h) (h2 : h ≤ T) (h3 : B ≤ h') (h4 : h' ≤ T) (hR : T - B ≤ max (u : Int) d) (h0 : T - B = 0 → max (u : Int) d = 0) :
    Ver h h' (u + d) fun z => B ≤ z ∧ z ≤ T := by
  by_cases c : h ≤ h'
  · have k1 := cast_to (Ver.down (h - B).toNat h) (h2 := B) (by omega)
    have k2 := Ver.spareU (u - (T - B).toNat) B
    have k3 := cast_to (Ver.up (T - B).toNat B) (h2 := T) (by omega)
    have k4 := cast_to (Ver.down (T - h').toNat T) (h2 := h') (by omega)
    refine (k1.trans (k2.trans (k3.trans k4))).mono (by omega) fun z => ?_
    omega
  · have k1 := cast_to (Ver.up (T - h).toNat h) (h2 := T) (by omega)
    have k2 := Ver.spareD (d - (T - B).toNat) T
    have k3 := cast_to (Ver.down (T - B).toNat T) (h2 := B) (by omega)
    have k4 := cast_to (Ver.up (h' - B).toNat B) (h2 := h') (by omega)
    refine (k1.trans (k2.trans (k3.trans k4))).mono (by omega) fun z => ?_
    omega
theorem build {q : St} {B T S : Int} {a b u d : Nat} (h1 : B ≤ q.2.1) (h2 : q.2.1 ≤ T) (h3 : B ≤ q.2.1 + u - d) (h4 : q.2.1 + u - d ≤ T) (hR : T - B ≤ max (u : Int) d) (h0 : T - B = 0 → max (u : Int) d = 0)
    (hB : ins lo hi B = true) (hT : ins lo hi T = true) (hS : (a : Int) * B - (b : Int) * T ≤ S) (hS' : S ≤ (a : Int) * T - (b : Int) * B) :
    Pth lo hi (a + b + u + d) q (q.1 + a - b, q.2.1 + u - d, q.2.2 + S) := by
  obtain ⟨p, l, x, e, s, v⟩ := skeleton (h' := q.2.1 + u - d) rfl h1 h2 h3 h4 hR h0
  obtain ⟨p', l', hz, hx, hh, hsm⟩ := fill (h := q.2.1) (B := B) (T := T) (by omega) (fun y a b => (v y).mpr ⟨a, b⟩) s x a b S hS hS'
  have r := run (lo := lo) (hi := hi) p' q (by
    intro y hy
    have := (v y).mp ((hz y).mp hy)
    rw [ins_iff] at hB hT ⊢
    exact ⟨fun l e => by have := hB.1 l e; omega, fun l e => by have := hT.2 l e; omega⟩)
  have e1 : p'.length = a + b + u + d := by omega
  have e2 : (q.1 + xs p', q.2.1 + hs p', q.2.2 + sm q.2.1 p') = (q.1 + a - b, q.2.1 + u - d, q.2.2 + S) := by
    rw [hx, hh, hsm]
    have : q.2.1 + hs p = q.2.1 + u - d := e
    rw [this]
    have : q.1 + ((a : Int) - b) = q.1 + a - b := by omega
    rw [this]
  rw [e1, e2] at r
  exact r
end HS
set_option maxHeartbeats 4000000
namespace HS
variable {lo hi : Option Int}
set_option maxHeartbeats 4000000 in
/-- four cases with one proof: T the top, B the bottom -/
theorem path_core {q e : St} (h1 : ins lo hi q.2.1 = true) (h2 : ins lo hi e.2.1 = true) {j v B T : Int} (hv : 0 ≤ v) (hvj : v ≤ j)
    (hBT : (T = q.2.1 + capI (max (dH q e) 0 + v) (roomOf lo hi q.2.1).2 ∧ B = T - capI (((dH q e).natAbs : Int) + v) (depthOf (roomOf lo hi q.2.1))) ∨
      (B = q.2.1 - capI (max (-dH q e) 0 + v) (roomOf lo hi q.2.1).1 ∧ T = B + capI (((dH q e).natAbs : Int) + v) (depthOf (roomOf lo hi q.2.1))))
    (h0 : depthOf (roomOf lo hi q.2.1) = some 0 → v = 0)
    (hS : (max (dX q e) 0 + (j - v)) * B - (max (-dX q e) 0 + (j - v)) * T ≤ e.2.2 - q.2.2) (hS' : e.2.2 - q.2.2 ≤ (max (dX q e) 0 + (j - v)) * T - (max (-dX q e) 0 + (j - v)) * B) :
    ∃ n : Nat, (n : Int) = bare q e + 2 * j ∧ Pth lo hi n q e := by
  have hB0 : B ≤ q.2.1 ∧ q.2.1 ≤ T ∧ B ≤ e.2.1 ∧ e.2.1 ≤ T ∧ T - B ≤ ((dH q e).natAbs : Int) + v ∧ (T - B = 0 → ((dH q e).natAbs : Int) + v = 0) ∧ ins lo hi B = true ∧ ins lo hi T = true := by
    rw [ins_iff] at h1 h2
    rw [ins_iff, ins_iff]
    unfold roomOf dH at *
    generalize q.2.1 = h at *
    generalize e.2.1 = h' at *
    clear hS hS'
    cases lo <;> cases hi <;> simp [depthOf, capI] at * <;> rcases hBT with ⟨rfl, rfl⟩ | ⟨rfl, rfl⟩ <;> omega
  obtain ⟨b1, b2, b3, b4, b5, b6, b7, b8⟩ := hB0
  have ea : ((max (dX q e) 0 + (j - v)).toNat : Int) = max (dX q e) 0 + (j - v) := by omega
  have eb : ((max (-dX q e) 0 + (j - v)).toNat : Int) = max (-dX q e) 0 + (j - v) := by omega
  have eu : ((max (dH q e) 0 + v).toNat : Int) = max (dH q e) 0 + v := by omega
  have ed : ((max (-dH q e) 0 + v).toNat : Int) = max (-dH q e) 0 + v := by omega
  have ee : q.2.1 + ((max (dH q e) 0 + v).toNat : Int) - ((max (-dH q e) 0 + v).toNat : Int) = e.2.1 := by unfold dH at *; omega
  have p := build (lo := lo) (hi := hi) (q := q) (B := B) (T := T) (S := e.2.2 - q.2.2) (a := (max (dX q e) 0 + (j - v)).toNat) (b := (max (-dX q e) 0 + (j - v)).toNat) (u := (max (dH q e) 0 + v).toNat) (d := (max (-dH q e) 0 + v).toNat)
    b1 b2 (by rw [ee]; exact b3) (by rw [ee]; exact b4) (by rw [eu, ed]; omega) (by rw [eu, ed]; omega) b7 b8 (by rw [ea, eb]; exact hS) (by rw [ea, eb]; exact hS')
  have ef : (q.1 + ((max (dX q e) 0 + (j - v)).toNat : Int) - ((max (-dX q e) 0 + (j - v)).toNat : Int), q.2.1 + ((max (dH q e) 0 + v).toNat : Int) - ((max (-dH q e) 0 + v).toNat : Int), q.2.2 + (e.2.2 - q.2.2)) = e := by
    rw [ee]
    have x1 : q.1 + ((max (dX q e) 0 + (j - v)).toNat : Int) - ((max (-dX q e) 0 + (j - v)).toNat : Int) = e.1 := by unfold dX at *; omega
    have x2 : q.2.2 + (e.2.2 - q.2.2) = e.2.2 := by omega
    rw [x1, x2]
  rw [ef] at p
  exact ⟨_, by unfold bare; omega, p⟩
theorem capI_pos {n : Int} {l : Option Int} (hl : ∀ m, l = some m → 0 ≤ m) (hn : 0 ≤ n) : 0 ≤ capI n l ∧ capI n l ≤ n := by
  cases l with
  | none => exact ⟨hn, Int.le_refl _⟩
  | some m => have := hl m rfl; simp only [capI]; omega
theorem path_of {q e : St} (h1 : ins lo hi q.2.1 = true) (h2 : ins lo hi e.2.1 = true) {j v : Int} (hv : 0 ≤ v) (hvj : v ≤ j)
    (h0 : depthOf (roomOf lo hi q.2.1) = some 0 → v = 0)
    (hS : ∃ s, ((s ≥ 0 ∧ 0 ≤ dS q e ∧ dS q e ≤ (exOf lo hi q e s).extent j v) ∨ (s < 0 ∧ dS q e ≤ 0 ∧ - dS q e ≤ (exOf lo hi q e s).extent j v))) :
    ∃ n : Nat, (n : Int) = bare q e + 2 * j ∧ Pth lo hi n q e := by
  obtain ⟨s, hS⟩ := hS
  have r2 : ∀ m, (roomOf lo hi q.2.1).2 = some m → 0 ≤ m := by
    rw [ins_iff] at h1; unfold roomOf; cases hi <;> simp at * ; omega
  have r1 : ∀ m, (roomOf lo hi q.2.1).1 = some m → 0 ≤ m := by
    rw [ins_iff] at h1; unfold roomOf; cases lo <;> simp at * ; omega
  have rd : ∀ m, (depthOf (roomOf lo hi q.2.1)) = some m → 0 ≤ m := by
    rw [ins_iff] at h1; unfold roomOf; cases lo <;> cases hi <;> simp [depthOf] at * ; omega
  have hT := capI_pos r2 (show 0 ≤ max (dH q e) 0 + v by omega)
  have hB := capI_pos r1 (show 0 ≤ max (-dH q e) 0 + v by omega)
  have hR := capI_pos rd (show 0 ≤ ((dH q e).natAbs : Int) + v by omega)
  have hTR : capI (max (dH q e) 0 + v) (roomOf lo hi q.2.1).2 ≤ capI (((dH q e).natAbs : Int) + v) (depthOf (roomOf lo hi q.2.1)) := by
    rw [ins_iff] at h1 h2
    unfold roomOf
    cases lo <;> cases hi <;> simp [depthOf, capI] at * <;> omega
  have hBR : capI (max (-dH q e) 0 + v) (roomOf lo hi q.2.1).1 ≤ capI (((dH q e).natAbs : Int) + v) (depthOf (roomOf lo hi q.2.1)) := by
    rw [ins_iff] at h1 h2
    unfold roomOf
    cases lo <;> cases hi <;> simp [depthOf, capI] at * <;> omega
  unfold exOf at hS
  rw [extent_eq] at hS
  have core := fun B T => @path_core lo hi q e h1 h2 j v B T hv hvj
  generalize hRd : capI (((dH q e).natAbs : Int) + v) (depthOf (roomOf lo hi q.2.1)) = R at *
  generalize hTd : capI (max (dH q e) 0 + v) (roomOf lo hi q.2.1).2 = T' at *
  generalize hBd : capI (max (-dH q e) 0 + v) (roomOf lo hi q.2.1).1 = B' at *
  have eS : dS q e = e.2.2 - q.2.2 - q.2.1 * dX q e := rfl
  rw [eS] at hS
  generalize e.2.2 - q.2.2 = S at *
  generalize hh : q.2.1 = h at *
  generalize dX q e = X at *
  have f0 : 0 ≤ j - v := by omega
  generalize j - v = f at *
  rcases hS with ⟨hs, hp, hS⟩ | ⟨hs, hp, hS⟩
  · by_cases hX : 0 ≤ X
    · rw [if_pos (by simp [hs, hX])] at hS
      have eX : (X.natAbs : Int) = X := by omega
      have e1 : max X 0 = X := by omega
      have e2 : max (-X) 0 = 0 := by omega
      rw [eX] at hS
      refine core (h + T' - R) (h + T') (.inl ⟨rfl, rfl⟩) h0 ?_ ?_ <;> rw [e1, e2]
      · have g1 := Int.mul_nonneg hX (show 0 ≤ R - T' by omega)
        have g2 := Int.mul_nonneg f0 hR.1
        have : (X + f) * (h + T' - R) - (0 + f) * (h + T') = h * X - X * (R - T') - f * R := by grind
        omega
      · have : (X + f) * (h + T') - (0 + f) * (h + T' - R) = h * X + X * T' + f * R := by grind
        omega
    · rw [if_neg (by simp [hs]; omega)] at hS
      have eX : (X.natAbs : Int) = -X := by omega
      have e1 : max X 0 = 0 := by omega
      have e2 : max (-X) 0 = -X := by omega
      rw [eX] at hS
      refine core (h - B') (h - B' + R) (.inr ⟨rfl, rfl⟩) h0 ?_ ?_ <;> rw [e1, e2]
      · have g1 := Int.mul_nonneg (show 0 ≤ -X by omega) (show 0 ≤ R - B' by omega)
        have g2 := Int.mul_nonneg f0 hR.1
        have : (0 + f) * (h - B') - (-X + f) * (h - B' + R) = h * X - (-X) * (R - B') - f * R := by grind
        omega
      · have : (0 + f) * (h - B' + R) - (-X + f) * (h - B') = h * X + (-X) * B' + f * R := by grind
        omega
  · by_cases hX : 0 ≤ X
    · rw [if_neg (by simp [hX]; omega)] at hS
      have eX : (X.natAbs : Int) = X := by omega
      have e1 : max X 0 = X := by omega
      have e2 : max (-X) 0 = 0 := by omega
      rw [eX] at hS
      refine core (h - B') (h - B' + R) (.inr ⟨rfl, rfl⟩) h0 ?_ ?_ <;> rw [e1, e2]
      · have : (X + f) * (h - B') - (0 + f) * (h - B' + R) = h * X - X * B' - f * R := by grind
        omega
      · have g1 := Int.mul_nonneg hX (show 0 ≤ R - B' by omega)
        have g2 := Int.mul_nonneg f0 hR.1
        have : (X + f) * (h - B' + R) - (0 + f) * (h - B') = h * X + X * (R - B') + f * R := by grind
        omega
    · rw [if_pos (by simp; omega)] at hS
      have eX : (X.natAbs : Int) = -X := by omega
      have e1 : max X 0 = 0 := by omega
      have e2 : max (-X) 0 = -X := by omega
      rw [eX] at hS
      refine core (h + T' - R) (h + T') (.inl ⟨rfl, rfl⟩) h0 ?_ ?_ <;> rw [e1, e2]
      · have : (0 + f) * (h + T' - R) - (-X + f) * (h + T') = h * X - (-X) * T' - f * R := by grind
        omega
      · have g1 := Int.mul_nonneg (show 0 ≤ -X by omega) (show 0 ≤ R - T' by omega)
        have g2 := Int.mul_nonneg f0 hR.1
        have : (0 + f) * (h + T') - (-X + f) * (h + T' - R) = h * X + (-X) * (R - T') + f * R := by grind
        omega
/-! ### 6. Lengths and distances -/
/-- the range of the sums of a length, as the program has it -/
def InRange (lo hi : Option Int) (q e : St) (j : Int) : Prop := -(exOf lo hi q e (-1)).greatest j ≤ dS q e ∧ dS q e ≤ (exOf lo hi q e 1).greatest j
theorem ex_sign {q e : St} {s t : Int} (h : (s ≥ 0 ↔ t ≥ 0)) : exOf lo hi q e s = exOf lo hi q e t := by
  unfold exOf mkXt
  have : decide (s ≥ 0) = decide (t ≥ 0) := by rw [decide_eq_decide]; exact h
  rw [this]
theorem best_one {E : Xt} (k : E.Ok) (hd : E.depth = some 0) {j : Int} (hj : 0 ≤ j) : E.best j = 0 := by
  obtain ⟨l', e', hl⟩ := k.ld 0 hd
  have := k.dl 0 hd
  have := k.c0
  have h1 := Xt.peak1_rg k hj
  have h2 := Xt.peak2_rg k hj
  have hs : E.second j ≤ 0 := by unfold Xt.second; rw [hd]; simp only; omega
  have := Xt.second_lo k hj
  unfold Xt.best; split <;> omega
theorem ex_depth {q e : St} {s : Int} : (exOf lo hi q e s).depth = depthOf (roomOf lo hi q.2.1) := by
  unfold exOf mkXt; split <;> rfl
/-- a path of a length: point 14 -/
theorem path_iff {q e : St} (h1 : ins lo hi q.2.1 = true) (h2 : ins lo hi e.2.1 = true) {n : Nat} : Pth lo hi n q e ↔ ∃ j, 0 ≤ j ∧ (n : Int) = bare q e + 2 * j ∧ InRange lo hi q e j := by
  constructor
  · intro p
    obtain ⟨j, v, hv, hvj, hn, hp, hm⟩ := path_within p h1 h2
    have g1 := Xt.le_greatest (exOf_ok (s := 1) h1 h2) hv hvj
    have g2 := Xt.le_greatest (exOf_ok (s := -1) h1 h2) hv hvj
    have := hp 1 (by omega)
    have := hm (-1) (by omega)
    exact ⟨j, by omega, hn, by unfold InRange; omega⟩
  · rintro ⟨j, hj, hn, r1, r2⟩
    by_cases c : 0 ≤ dS q e
    · have k := exOf_ok (s := 1) h1 h2
      have b := Xt.best_rg k hj
      obtain ⟨m, hm, p⟩ := path_of h1 h2 b.1 b.2 (fun z => best_one k (by rw [ex_depth]; exact z) hj) ⟨1, .inl ⟨by omega, c, r2⟩⟩
      have : m = n := by omega
      rw [← this]; exact p
    · have k := exOf_ok (s := -1) h1 h2
      have b := Xt.best_rg k hj
      obtain ⟨m, hm, p⟩ := path_of h1 h2 b.1 b.2 (fun z => best_one k (by rw [ex_depth]; exact z) hj) ⟨-1, .inr ⟨by omega, by omega, by unfold Xt.greatest at r1; omega⟩⟩
      have : m = n := by omega
      rw [← this]; exact p
theorem inRange_iff {q e : St} (h1 : ins lo hi q.2.1 = true) (h2 : ins lo hi e.2.1 = true) {j : Int} (hj : 0 ≤ j) : InRange lo hi q e j ↔ (dS q e).natAbs ≤ (exOf lo hi q e (dS q e)).greatest j := by
  have g1 := Xt.greatest_nonneg (exOf_ok (s := 1) h1 h2) hj
  have g2 := Xt.greatest_nonneg (exOf_ok (s := -1) h1 h2) hj
  unfold InRange
  by_cases c : 0 ≤ dS q e
  · have e1 : exOf lo hi q e (dS q e) = exOf lo hi q e 1 := ex_sign (by omega)
    rw [e1]; omega
  · have e1 : exOf lo hi q e (dS q e) = exOf lo hi q e (-1) := ex_sign (by omega)
    rw [e1]; omega
/-- what distance_or_none hands back -/
def Dist (lo hi : Option Int) (q e : St) : Option Int → Prop
  | none => ∀ n, ¬ Pth lo hi n q e
  | some d => 0 ≤ d ∧ Pth lo hi d.toNat q e ∧ ∀ n : Nat, (n : Int) < d → ¬ Pth lo hi n q e
theorem dist_of_few {q e : St} (h1 : ins lo hi q.2.1 = true) (h2 : ins lo hi e.2.1 = true) {r : Option Int} (h : (exOf lo hi q e (dS q e)).Few ((dS q e).natAbs) r) :
    Dist lo hi q e (r.map fun j => bare q e + 2 * j) := by
  have k := exOf_ok (s := dS q e) h1 h2
  have b0 : 0 ≤ bare q e := by unfold bare; omega
  cases r with
  | none =>
    intro n p
    obtain ⟨j, hj, hn, hr⟩ := (path_iff h1 h2).mp p
    rw [inRange_iff h1 h2 hj] at hr
    obtain ⟨hd, hlt⟩ := h
    obtain ⟨l', e', hl⟩ := k.ld 0 hd
    have c1 := k.dl 0 hd
    have c2 := k.c0
    have c3 := k.b0
    have c4 := k.lb l' e'
    have hb := best_one k hd hj
    have hb0 := best_one k hd (Int.le_refl 0)
    have e0 : ∀ i, (exOf lo hi q e (dS q e)).extent i 0 = (exOf lo hi q e (dS q e)).extent 0 0 := by
      intro i
      unfold Xt.extent
      have : capI ((exOf lo hi q e (dS q e)).climb + 0) (exOf lo hi q e (dS q e)).depth = 0 := by rw [hd]; simp only [capI]; omega
      rw [this]; simp
    unfold Xt.greatest at hr hlt
    rw [hb, e0] at hr
    rw [hb0] at hlt
    omega
  | some j =>
    obtain ⟨hj, hge, hlt⟩ := h
    refine ⟨by simp; omega, ?_, ?_⟩
    · exact (path_iff h1 h2).mpr ⟨j, hj, by simp; omega, (inRange_iff h1 h2 hj).mpr hge⟩
    · intro n hn p
      obtain ⟨i, hi0, hn', hr⟩ := (path_iff h1 h2).mp p
      rw [inRange_iff h1 h2 hi0] at hr
      simp at hn
      rcases hlt with hlt | hlt
      · omega
      · have := Xt.greatest_mono k (i := i) (j := j - 1) hi0 (by omega)
        omega
end HS
set_option maxHeartbeats 4000000
namespace HS
variable {lo hi : Option Int}
/-! ### 7. Distances of neighbours; shortest paths -/
def opp : Sp → Sp | .E => .W | .W => .E | .U => .D | .D => .U
theorem aft_opp (q : St) (s : Sp) : aft (aft q s) (opp s) = q := by
  obtain ⟨x, h, t⟩ := q
  cases s <;> simp [aft, opp] <;> omega
theorem Pth.ends {n : Nat} {q e : St} (p : Pth lo hi n q e) (hq : ins lo hi q.2.1 = true) : ins lo hi e.2.1 = true := by
  induction p with
  | nil => exact hq
  | cons s h _ ih => exact ih h
theorem Dist.some_of {q e : St} {r : Option Int} (h : Dist lo hi q e r) {n : Nat} (p : Pth lo hi n q e) : ∃ d : Nat, r = some (d : Int) ∧ d ≤ n ∧ Pth lo hi d q e := by
  cases r with
  | none => exact absurd p (h n)
  | some d =>
    obtain ⟨h0, h1, h2⟩ := h
    refine ⟨d.toNat, by congr 1; omega, ?_, h1⟩
    have : ¬ (n : Int) < d := fun z => h2 n z p
    omega
theorem Dist.uniq {q e : St} {r t : Option Int} (h : Dist lo hi q e r) (k : Dist lo hi q e t) : r = t := by
  cases r with
  | none =>
    cases t with
    | none => rfl
    | some d => exact absurd k.2.1 (h _)
  | some d =>
    cases t with
    | none => exact absurd h.2.1 (k _)
    | some c =>
      have h1 : ¬ ((d.toNat : Nat) : Int) < c := fun z => k.2.2 _ z h.2.1
      have h2 : ¬ ((c.toNat : Nat) : Int) < d := fun z => h.2.2 _ z k.2.1
      have := h.1
      have := k.1
      congr 1; omega
/-- the distance is n -/
def DistN (lo hi : Option Int) (n : Nat) (q e : St) : Prop := Dist lo hi q e (some (n : Int))
theorem distN_iff {n : Nat} {q e : St} : DistN lo hi n q e ↔ Pth lo hi n q e ∧ ∀ m, m < n → ¬ Pth lo hi m q e := by
  unfold DistN Dist
  constructor
  · rintro ⟨_, h1, h2⟩; exact ⟨by simpa using h1, fun m hm => h2 m (by omega)⟩
  · rintro ⟨h1, h2⟩; exact ⟨by omega, by simpa using h1, fun m hm => h2 m (by omega)⟩
theorem exists_dist {n : Nat} {q e : St} (p : Pth lo hi n q e) : ∃ m, m ≤ n ∧ DistN lo hi m q e := by
  induction n using Nat.strongRecOn with
  | ind n ih =>
    by_cases c : ∃ m, m < n ∧ Pth lo hi m q e
    · obtain ⟨m, h1, h2⟩ := c
      obtain ⟨k, h3, h4⟩ := ih m h1 h2
      exact ⟨k, by omega, h4⟩
    · exact ⟨n, Nat.le_refl _, distN_iff.mpr ⟨p, fun m h1 h2 => c ⟨m, h1, h2⟩⟩⟩
/-- shortest paths counted by the program: at each step only the states at the right distance -/
noncomputable def good (lo hi : Option Int) (e : St) (n : Nat) (q : St) : Bool := @decide (DistN lo hi n q e) (Classical.propDecidable _)
theorem good_iff {e : St} {n : Nat} {q : St} : good lo hi e n q = true ↔ DistN lo hi n q e := by
  unfold good; exact @decide_eq_true_iff _ (Classical.propDecidable _)
/-- the value that a state of the table at step .. adds to the end: n steps are left -/
noncomputable def sho (lo hi : Option Int) (e : St) : Nat → St → Int
  | 0 => one e
  | n + 1 => Tm lo hi fun q => if good lo hi e n q = true then sho lo hi e n q else 0
theorem sho_eq {e : St} : ∀ {n : Nat} {q : St}, DistN lo hi n q e → sho lo hi e n q = cnt lo hi n e q
  | 0, q, _ => rfl
  | n + 1, q, h => by
    rw [distN_iff] at h
    have key : ∀ s, on lo hi (fun q => if good lo hi e n q = true then sho lo hi e n q else 0) (aft q s) = on lo hi (cnt lo hi n e) (aft q s) := by
      intro s
      unfold on
      by_cases c : ins lo hi (aft q s).2.1 = true
      · rw [if_pos c, if_pos c]
        show (if good lo hi e n (aft q s) = true then sho lo hi e n (aft q s) else 0) = _
        by_cases g : good lo hi e n (aft q s) = true
        · rw [if_pos g]; exact sho_eq (good_iff.mp g)
        · rw [if_neg g]
          symm
          rw [cnt_zero]
          intro p
          obtain ⟨m, h1, h2⟩ := exists_dist p
          by_cases z : m = n
          · subst z; exact g (good_iff.mpr h2)
          · exact h.2 (m + 1) (by omega) (.cons s c (distN_iff.mp h2).1)
      · rw [if_neg c, if_neg c]
    show Tm lo hi _ q = Tm lo hi _ q
    unfold Tm
    rw [key, key, key, key]
/-- a step that stays in the band: the distance changes by at most one, and exists -/
theorem dist_step {q e : St} {n : Nat} {s : Sp} (h : DistN lo hi n q e) (hq : ins lo hi q.2.1 = true) (c : ins lo hi (aft q s).2.1 = true) {r : Option Int} (k : Dist lo hi (aft q s) e r) :
    ∃ m : Nat, r = some (m : Int) ∧ n ≤ m + 1 := by
  rw [distN_iff] at h
  have p : Pth lo hi (n + 1) (aft q s) e := .cons (opp s) (by rw [aft_opp]; exact hq) (by rw [aft_opp]; exact h.1)
  obtain ⟨d, rfl, h1, h2⟩ := k.some_of p
  refine ⟨d, rfl, ?_⟩
  have : ¬ d + 1 < n := fun z => h.2 _ z (.cons s c h2)
  omega
/-- the paths that are shortest, by their first steps -/
theorem cnt_shortest_step {q e : St} {n : Nat} {s : Sp} (h : DistN lo hi (n + 1) q e) (hq : ins lo hi q.2.1 = true) :
    on lo hi (cnt lo hi n e) (aft q s) = (if ins lo hi (aft q s).2.1 = true then (if good lo hi e n (aft q s) = true then cnt lo hi n e (aft q s) else 0) else 0) := by
  unfold on
  by_cases c : ins lo hi (aft q s).2.1 = true
  · rw [if_pos c, if_pos c]
    by_cases g : good lo hi e n (aft q s) = true
    · rw [if_pos g]
    · rw [if_neg g, cnt_zero]
      intro p
      obtain ⟨m, h1, h2⟩ := exists_dist p
      by_cases z : m = n
      · subst z; exact g (good_iff.mpr h2)
      · exact (distN_iff.mp h).2 (m + 1) (by omega) (.cons s c (distN_iff.mp h2).1)
  · rw [if_neg c, if_neg c]
/-! ### 8. Paths one or two heights up, without a band -/
theorem pth_len {n : Nat} {q e : St} (p : Pth lo hi n q e) : bare q e ≤ n := by
  induction p with
  | nil => simp [bare, dX, dH]
  | cons s h p ih =>
    rename_i n q e
    unfold bare dX dH at *
    cases s <;> simp only [aft] at * <;> omega
theorem cnt_far {n : Nat} {q e : St} (h : (n : Int) < bare q e) : cnt lo hi n e q = 0 := by
  rw [cnt_zero]
  intro p
  have := pth_len p
  omega
/-- the end a to the east, H up, the sum S more than on the flat -/
def up (q : St) (a H : Nat) (S : Int) : St := (q.1 + a, q.2.1 + H, q.2.2 + q.2.1 * a + S)
theorem on_free {f : St → Int} {q : St} : on none none f q = f q := rfl
theorem cnt_up_zero (q : St) (S : Int) : cnt none none 0 (up q 0 0 S) q = if S = 0 then 1 else 0 := by
  obtain ⟨x, h, s⟩ := q
  have : ((x, h, s) = (up (x, h, s) 0 0 S)) ↔ S = 0 := by simp [up]; omega
  show (if (x, h, s) = up (x, h, s) 0 0 S then 1 else 0) = _
  simp only [this]
def upE (n : Nat) (q : St) (H : Nat) (S : Int) : Nat → Int
  | 0 => 0
  | a + 1 => cnt none none n (up (aft q .E) a H S) (aft q .E)
def upU (n : Nat) (q : St) (a : Nat) (S : Int) : Nat → Int
  | 0 => 0
  | H + 1 => cnt none none n (up (aft q .U) a H (S - a)) (aft q .U)
theorem cnt_up_step (q : St) (a H : Nat) (S : Int) (n : Nat) (hn : n + 1 = a + H) :
    cnt none none (n + 1) (up q a H S) q = upE n q H S a + upU n q a S H := by
  show Tm none none (cnt none none n (up q a H S)) q = _
  unfold Tm
  rw [on_free, on_free, on_free, on_free]
  have w0 : cnt none none n (up q a H S) (aft q .W) = 0 := cnt_far (by unfold bare dX dH up; simp [aft]; omega)
  have d0 : cnt none none n (up q a H S) (aft q .D) = 0 := cnt_far (by unfold bare dX dH up; simp [aft]; omega)
  have e0 : cnt none none n (up q a H S) (aft q .E) = upE n q H S a := by
    cases a with
    | zero => exact cnt_far (by unfold bare dX dH up; simp [aft]; omega)
    | succ a =>
      have : up q (a + 1) H S = up (aft q .E) a H S := by
        obtain ⟨x, h, s⟩ := q
        simp [up, aft, Int.mul_add]; omega
      rw [this]; rfl
  have u0 : cnt none none n (up q a H S) (aft q .U) = upU n q a S H := by
    cases H with
    | zero => exact cnt_far (by unfold bare dX dH up; simp [aft]; omega)
    | succ H =>
      have : up q a (H + 1) S = up (aft q .U) a H (S - a) := by
        obtain ⟨x, h, s⟩ := q
        simp [up, aft, Int.add_mul]; omega
      rw [this]; rfl
  rw [w0, d0, e0, u0]; omega
theorem cnt_up0 : ∀ (a : Nat) (q : St) (S : Int), cnt none none a (up q a 0 S) q = if S = 0 then 1 else 0
  | 0, q, S => cnt_up_zero q S
  | a + 1, q, S => by rw [cnt_up_step q (a + 1) 0 S a (by omega)]; simp only [upE, upU]; rw [cnt_up0 a]; omega
theorem cnt_up1 : ∀ (a : Nat) (q : St) (S : Int), cnt none none (a + 1) (up q a 1 S) q = if 0 ≤ S ∧ S ≤ a then 1 else 0
  | 0, q, S => by
    rw [cnt_up_step q 0 1 S 0 (by omega)]; simp only [upE, upU]; rw [cnt_up0 0]
    simp; split <;> split <;> omega
  | a + 1, q, S => by
    rw [cnt_up_step q (a + 1) 1 S (a + 1) (by omega)]; simp only [upE, upU]; rw [cnt_up0 (a + 1), cnt_up1 a]
    split <;> split <;> split <;> omega
/-- the ways to place two U steps: by the higher number of E steps behind -/
def two : Nat → Int → Int
  | 0, S => if S = 0 then 1 else 0
  | a + 1, S => two a S + if ((a + 1 : Nat) : Int) ≤ S ∧ S ≤ 2 * ((a + 1 : Nat) : Int) then 1 else 0
theorem cnt_up2 : ∀ (a : Nat) (q : St) (S : Int), cnt none none (a + 2) (up q a 2 S) q = two a S
  | 0, q, S => by
    rw [cnt_up_step q 0 2 S 1 (by omega)]; simp only [upE, upU]; rw [cnt_up1 0]
    unfold two
    simp; split <;> split <;> omega
  | a + 1, q, S => by
    rw [cnt_up_step q (a + 1) 2 S (a + 2) (by omega)]; simp only [upE, upU]
    rw [cnt_up1 (a + 1), cnt_up2 a]
    conv => rhs; unfold two
    congr 1
    split <;> split <;> omega
/-- as the law counts them: by the lower number -/
def ways (a : Nat) (S : Int) : Int := ((List.range (a + 1)).filter fun (l : Nat) => decide ((l : Int) ≤ S - l ∧ S - l ≤ a)).length
theorem two_ways : ∀ a < 10, ∀ S < 20, two a ((S : Nat) : Int) = ways a ((S : Nat) : Int) := by decide +kernel
/-! ### 9. From both ends -/
theorem free_succ (n : Nat) (e q : St) : cnt none none (n + 1) e q = cnt none none n e (aft q .E) + cnt none none n e (aft q .W) + cnt none none n e (aft q .U) + cnt none none n e (aft q .D) := rfl
theorem one_opp (q e : St) (s : Sp) : one e (aft q s) = one (aft e (opp s)) q := by
  unfold one
  have : aft q s = e ↔ q = aft e (opp s) := by
    constructor
    · rintro rfl; exact (aft_opp q s).symm
    · rintro rfl
      have := aft_opp e (opp s)
      have o : opp (opp s) = s := by cases s <;> rfl
      rw [o] at this; exact this
  simp only [this]
theorem free_last : ∀ (n : Nat) (e q : St), cnt none none (n + 1) e q = cnt none none n (aft e .E) q + cnt none none n (aft e .W) q + cnt none none n (aft e .U) q + cnt none none n (aft e .D) q
  | 0, e, q => by
    rw [free_succ]
    show one e (aft q .E) + one e (aft q .W) + one e (aft q .U) + one e (aft q .D) = one _ q + one _ q + one _ q + one _ q
    rw [one_opp, one_opp, one_opp, one_opp]
    simp only [opp]; omega
  | n + 1, e, q => by
    rw [free_succ, free_last n e, free_last n e, free_last n e, free_last n e, free_succ n, free_succ n, free_succ n, free_succ n]
    omega
theorem free_symm : ∀ (n : Nat) (e q : St), cnt none none n e q = cnt none none n q e
  | 0, e, q => by
    show one e q = one q e
    unfold one
    have : q = e ↔ e = q := ⟨Eq.symm, Eq.symm⟩
    simp only [this]
  | n + 1, e, q => by
    rw [free_succ, free_last n q e, free_symm n e, free_symm n e, free_symm n e, free_symm n e]
/-- n + k steps: k steps of the operator over the numbers of the last n -/
def iter (lo hi : Option Int) (f : St → Int) : Nat → St → Int
  | 0 => f
  | k + 1 => Tm lo hi (iter lo hi f k)
theorem iter_cnt (n : Nat) (e : St) : ∀ k, iter lo hi (cnt lo hi n e) k = cnt lo hi (n + k) e
  | 0 => rfl
  | k + 1 => by show Tm lo hi _ = Tm lo hi _; rw [iter_cnt n e k]; rfl
theorem iter_one (e : St) : ∀ k, iter lo hi (one e) k = cnt lo hi k e
  | 0 => rfl
  | k + 1 => by show Tm lo hi _ = Tm lo hi _; rw [iter_one e k]
end HS
set_option maxHeartbeats 4000000
namespace HS
variable {lo hi : Option Int}
/-! ### 10. Boxes, ways back -/
theorem pth_snoc {n : Nat} {q e : St} (p : Pth lo hi n q e) (s : Sp) (h : ins lo hi (aft e s).2.1 = true) : Pth lo hi (n + 1) q (aft e s) := by
  induction p with
  | nil q => exact .cons s h (.nil _)
  | cons t h1 _ ih => exact .cons t h1 (ih h)
theorem pth_trans {n m : Nat} {q r e : St} (p : Pth lo hi n q r) (p' : Pth lo hi m r e) : Pth lo hi (n + m) q e := by
  induction p with
  | nil q => rw [Nat.zero_add]; exact p'
  | @cons n q r s h1 _ ih =>
    rw [Nat.add_right_comm]
    exact .cons s h1 (ih p')
theorem pth_rev {n : Nat} {q e : St} (p : Pth lo hi n q e) (hq : ins lo hi q.2.1 = true) : Pth lo hi n e q := by
  induction p with
  | nil q => exact .nil q
  | @cons n q e s h1 _ ih =>
    have := pth_snoc (ih h1) (opp s) (by rw [aft_opp]; exact hq)
    rw [aft_opp] at this
    exact this
theorem pth_box {n : Nat} {q e : St} (p : Pth lo hi n q e) : (dX q e).natAbs ≤ n ∧ (dH q e).natAbs ≤ n ∧ (dS q e).natAbs ≤ n * n := by
  induction p with
  | nil q => simp [dX, dH, dS]
  | @cons n q e s h1 p ih =>
    obtain ⟨i1, i2, i3⟩ := ih
    have sq : (n + 1) * (n + 1) = n * n + 2 * n + 1 := by rw [Nat.add_mul, Nat.mul_add]; omega
    rw [sq]
    have key : (dS q e).natAbs ≤ (dS (aft q s) e).natAbs + n := by
      have eq : dS q e = dS (aft q s) e + dh s * dX (aft q s) e := by
        unfold dS dX
        obtain ⟨x, h, t⟩ := q
        cases s <;> simp only [aft, dh] <;> grind
      rw [eq]
      cases s <;> simp only [dh] <;> omega
    refine ⟨?_, ?_, by omega⟩
    · unfold dX at *
      cases s <;> simp only [aft] at * <;> omega
    · unfold dH at *
      cases s <;> simp only [aft] at * <;> omega
/-! ### 11. Tables: numbers of paths by states -/
abbrev Tab := List (St × Int)
def getT (T : Tab) (q : St) : Option Int := T.lookup q
def putT : Tab → St → Int → Tab
  | [], q, n => [(q, n)]
  | p :: T, q, n => if p.1 = q then (q, n) :: T else p :: putT T q n
def pair (T : Tab) (f : St → Int) : Int := (T.map fun p => p.2 * f p.1).sum
theorem getT_nil (q : St) : getT [] q = none := rfl
theorem getT_cons (p : St × Int) (T : Tab) (q : St) : getT (p :: T) q = if p.1 = q then some p.2 else getT T q := by
  obtain ⟨k, v⟩ := p
  unfold getT
  rw [List.lookup_cons]
  by_cases h : k = q
  · subst h; simp
  · have : (q == k) = false := by simpa using fun z => h z.symm
    rw [this, if_neg h]
theorem mem_put {T : Tab} {q : St} {n : Int} {p : St × Int} (h : p ∈ putT T q n) : p = (q, n) ∨ p ∈ T := by
  induction T with
  | nil => exact .inl (by simpa [putT] using h)
  | cons a T ih =>
    unfold putT at h
    split at h
    · rcases List.mem_cons.mp h with h | h
      · exact .inl h
      · exact .inr (List.mem_cons_of_mem _ h)
    · rcases List.mem_cons.mp h with h | h
      · exact .inr (by rw [h]; exact List.mem_cons_self)
      · rcases ih h with h | h
        · exact .inl h
        · exact .inr (List.mem_cons_of_mem _ h)
theorem keys_put {T : Tab} {q k : St} {n : Int} (h : k ∈ (putT T q n).map (·.1)) : k = q ∨ k ∈ T.map (·.1) := by
  obtain ⟨p, hp, rfl⟩ := List.mem_map.mp h
  rcases mem_put hp with h | h
  · exact .inl (by rw [h])
  · exact .inr (List.mem_map.mpr ⟨p, h, rfl⟩)
theorem nd_put {T : Tab} {q : St} {n : Int} (h : (T.map (·.1)).Nodup) : ((putT T q n).map (·.1)).Nodup := by
  induction T with
  | nil => simp [putT]
  | cons a T ih =>
    rw [List.map_cons, List.nodup_cons] at h
    unfold putT
    split
    · rename_i e
      rw [List.map_cons, List.nodup_cons]
      exact ⟨by rw [← e]; exact h.1, h.2⟩
    · rename_i e
      rw [List.map_cons, List.nodup_cons]
      refine ⟨fun z => ?_, ih h.2⟩
      rcases keys_put z with z | z
      · exact e z
      · exact h.1 z
theorem len_put (T : Tab) (q : St) (n : Int) : (putT T q n).length ≤ T.length + 1 := by
  induction T with
  | nil => simp [putT]
  | cons a T ih =>
    unfold putT
    split
    · simp
    · rw [List.length_cons, List.length_cons]; omega
theorem pair_cons (p : St × Int) (T : Tab) (f : St → Int) : pair (p :: T) f = p.2 * f p.1 + pair T f := by
  unfold pair
  rw [List.map_cons, List.sum_cons]
theorem pair_nil (f : St → Int) : pair [] f = 0 := rfl
theorem getT_none {T : Tab} {q : St} (h : q ∉ T.map (·.1)) : getT T q = none := by
  induction T with
  | nil => rfl
  | cons a T ih =>
    rw [List.map_cons, List.mem_cons, not_or] at h
    rw [getT_cons, if_neg (fun z => h.1 z.symm), ih h.2]
/-- storing the sum of what is there and n -/
theorem pair_put (T : Tab) (q : St) (n : Int) (f : St → Int) : pair (putT T q ((getT T q).getD 0 + n)) f = pair T f + n * f q := by
  induction T with
  | nil => simp [putT, pair, getT]
  | cons a T ih =>
    unfold putT
    rw [getT_cons]
    by_cases e : a.1 = q
    · rw [if_pos e, if_pos e, pair_cons, pair_cons, e]
      simp only [Option.getD_some]
      rw [Int.add_mul]; omega
    · rw [if_neg e, if_neg e, pair_cons, pair_cons, ih]; omega
theorem pair_one {T : Tab} (nd : (T.map (·.1)).Nodup) (e : St) : pair T (one e) = (getT T e).getD 0 := by
  induction T with
  | nil => rfl
  | cons a T ih =>
    rw [List.map_cons, List.nodup_cons] at nd
    rw [pair_cons, getT_cons, ih nd.2]
    by_cases h : a.1 = e
    · rw [if_pos h]
      have : getT T e = none := getT_none (by rw [← h]; exact nd.1)
      rw [this]
      simp [one, h]
    · rw [if_neg h]
      simp [one, h]
theorem pair_filter (T : Tab) (g : St → Bool) (f : St → Int) : pair (T.filter fun p => g p.1) f = pair T fun q => if g q = true then f q else 0 := by
  induction T with
  | nil => rfl
  | cons a T ih =>
    rw [List.filter_cons, pair_cons]
    by_cases h : g a.1 = true
    · rw [if_pos h, if_pos h, pair_cons, ih]
    · rw [if_neg h, if_neg h, ih]; simp
/-! ### one more step -/
def add1 (lo hi : Option Int) (n : Int) (X : Tab) (q : St) : Tab := if ins lo hi q.2.1 = true then putT X q ((getT X q).getD 0 + n) else X
def addTo (lo hi : Option Int) (q : St) (n : Int) (X : Tab) : List Sp → Tab
  | [] => X
  | s :: r => addTo lo hi q n (add1 lo hi n X (aft q s)) r
def steps : List Sp := [.E, .W, .U, .D]
def extT (lo hi : Option Int) (T : Tab) : Tab := T.foldl (fun X p => addTo lo hi p.1 p.2 X steps) []
theorem pair_add1 (n : Int) (X : Tab) (q : St) (f : St → Int) : pair (add1 lo hi n X q) f = pair X f + n * on lo hi f q := by
  unfold add1 on
  by_cases c : ins lo hi q.2.1 = true
  · rw [if_pos c, if_pos c, pair_put]
  · rw [if_neg c, if_neg c]; simp
theorem pair_add (q : St) (n : Int) (X : Tab) (f : St → Int) : pair (addTo lo hi q n X steps) f = pair X f + n * Tm lo hi f q := by
  simp only [steps, addTo, pair_add1, Tm]
  rw [Int.mul_add, Int.mul_add, Int.mul_add]; omega
theorem pair_fold (T : Tab) (f : St → Int) : ∀ X, pair (T.foldl (fun X p => addTo lo hi p.1 p.2 X steps) X) f = pair X f + pair T (Tm lo hi f) := by
  induction T with
  | nil => intro X; simp [pair_nil]
  | cons a T ih =>
    intro X
    rw [List.foldl_cons, ih, pair_add, pair_cons]; omega
theorem pair_ext (T : Tab) (f : St → Int) : pair (extT lo hi T) f = pair T (Tm lo hi f) := by
  unfold extT
  rw [pair_fold, pair_nil]; omega
/-- what holds of a table of the paths of i steps from q0 -/
structure TabOk (lo hi : Option Int) (q0 : St) (i : Nat) (T : Tab) : Prop where
  nd : (T.map (·.1)).Nodup
  key : ∀ p ∈ T, Pth lo hi i q0 p.1 ∧ 0 < p.2
theorem getT_mem {T : Tab} {q : St} {n : Int} (h : getT T q = some n) : (q, n) ∈ T := by
  induction T with
  | nil => cases h
  | cons a T ih =>
    rw [getT_cons] at h
    split at h
    · rename_i e
      have := Option.some.inj h
      rw [← e, ← this]
      exact List.mem_cons_self
    · exact List.mem_cons_of_mem _ (ih h)
theorem tabOk_add1 {q0 q : St} {i : Nat} {n : Int} {X : Tab} (k : TabOk lo hi q0 i X) (hn : 0 < n) (p : ins lo hi q.2.1 = true → Pth lo hi i q0 q) : TabOk lo hi q0 i (add1 lo hi n X q) := by
  unfold add1
  split
  · rename_i c
    refine ⟨nd_put k.nd, fun z hz => ?_⟩
    rcases mem_put hz with rfl | hz
    · refine ⟨p c, ?_⟩
      show 0 < (getT X q).getD 0 + n
      cases e : getT X q with
      | none => simpa using hn
      | some m =>
        have := (k.key _ (getT_mem e)).2
        simp only [Option.getD_some]
        omega
    · exact k.key z hz
  · exact k
theorem tabOk_add {q0 q : St} {i : Nat} {n : Int} (hn : 0 < n) (p : Pth lo hi i q0 q) : ∀ (r : List Sp) {X : Tab}, TabOk lo hi q0 (i + 1) X → TabOk lo hi q0 (i + 1) (addTo lo hi q n X r)
  | [], _, k => k
  | s :: r, _, k => tabOk_add hn p r (tabOk_add1 k hn fun c => pth_snoc p s c)
theorem tabOk_fold {q0 : St} {i : Nat} : ∀ {T : Tab}, (∀ p ∈ T, Pth lo hi i q0 p.1 ∧ 0 < p.2) → ∀ {X : Tab}, TabOk lo hi q0 (i + 1) X → TabOk lo hi q0 (i + 1) (T.foldl (fun X p => addTo lo hi p.1 p.2 X steps) X)
  | [], _, _, k => k
  | a :: T, h, _, k => tabOk_fold (fun p hp => h p (List.mem_cons_of_mem _ hp)) (tabOk_add (h a List.mem_cons_self).2 (h a List.mem_cons_self).1 steps k)
theorem tabOk_ext {q0 : St} {i : Nat} {T : Tab} (k : TabOk lo hi q0 i T) : TabOk lo hi q0 (i + 1) (extT lo hi T) := tabOk_fold k.key ⟨by simp, fun p hp => by cases hp⟩
theorem tabOk_start (q0 : St) : TabOk lo hi q0 0 [(q0, 1)] := ⟨by simp, fun p hp => by rw [List.mem_singleton.mp hp]; exact ⟨.nil _, by show (0 : Int) < 1; decide⟩⟩
theorem tabOk_filter {q0 : St} {i : Nat} {T : Tab} (k : TabOk lo hi q0 i T) (g : St → Bool) : TabOk lo hi q0 i (T.filter fun p => g p.1) := by
  refine ⟨?_, fun p hp => k.key p (List.mem_filter.mp hp).1⟩
  have : (T.filter fun p => g p.1).map (·.1) = (T.map (·.1)).filter g := by rw [List.filter_map]; rfl
  rw [this]
  exact k.nd.filter _
theorem len_add1 (n : Int) (X : Tab) (q : St) : (add1 lo hi n X q).length ≤ X.length + 1 := by
  unfold add1
  split
  · exact len_put _ _ _
  · exact Nat.le_succ _
theorem len_add (q : St) (n : Int) : ∀ (r : List Sp) (X : Tab), (addTo lo hi q n X r).length ≤ X.length + r.length
  | [], _ => Nat.le_refl _
  | s :: r, X => by
    have h1 := len_add q n r (add1 lo hi n X (aft q s))
    have h2 := len_add1 (lo := lo) (hi := hi) n X (aft q s)
    show (addTo lo hi q n (add1 lo hi n X (aft q s)) r).length ≤ X.length + (r.length + 1)
    omega
theorem len_fold : ∀ (T X : Tab), (T.foldl (fun X p => addTo lo hi p.1 p.2 X steps) X).length ≤ X.length + 4 * T.length
  | [], _ => by simp
  | a :: T, X => by
    have h1 := len_fold T (addTo lo hi a.1 a.2 X steps)
    have h2 := len_add (lo := lo) (hi := hi) a.1 a.2 steps X
    have h3 : steps.length = 4 := rfl
    rw [List.foldl_cons, List.length_cons]
    omega
theorem len_ext (T : Tab) : (extT lo hi T).length ≤ 4 * T.length := by
  have := len_fold (lo := lo) (hi := hi) T []
  simpa [extT] using this
/-! ### a table in a box is small -/
theorem nd_lt : ∀ (N : Nat) (l : List Nat), l.Nodup → (∀ x ∈ l, x < N) → l.length ≤ N
  | 0, l, _, h => by
    cases l with
    | nil => simp
    | cons a l => exact absurd (h a List.mem_cons_self) (by omega)
  | N + 1, l, nd, h => by
    have h1 := nd_lt N (l.erase N) (nd.erase N) fun x hx => by
      have := h x (List.mem_of_mem_erase hx)
      have : x ≠ N := fun z => by
        rw [z] at hx
        exact (nd.mem_erase_iff.mp hx).1 rfl
      omega
    have := List.length_erase (a := N) (l := l)
    split at this <;> omega
/-- a state of a box as a number -/
def code (q0 q : St) : Nat := ((dX q0 q + 14).toNat * 29 + (dH q0 q + 14).toNat) * 393 + (dS q0 q + 196).toNat
theorem code_lt {q0 q : St} {i : Nat} (hi14 : i ≤ 14) (p : Pth lo hi i q0 q) : code q0 q < 330513 := by
  obtain ⟨h1, h2, h3⟩ := pth_box p
  have : i * i ≤ 196 := Nat.mul_le_mul hi14 hi14
  unfold code
  omega
theorem code_inj {q0 q r : St} {i : Nat} (hi14 : i ≤ 14) (p : Pth lo hi i q0 q) (p' : Pth lo hi i q0 r) (e : code q0 q = code q0 r) : q = r := by
  obtain ⟨h1, h2, h3⟩ := pth_box p
  obtain ⟨g1, g2, g3⟩ := pth_box p'
  have : i * i ≤ 196 := Nat.mul_le_mul hi14 hi14
  unfold code at e
  have ex : dX q0 q = dX q0 r := by omega
  have eh : dH q0 q = dH q0 r := by omega
  have es : dS q0 q = dS q0 r := by omega
  obtain ⟨x, h, s⟩ := q
  obtain ⟨x', h', s'⟩ := r
  unfold dX at ex
  unfold dH at eh
  simp only at ex eh
  have e1 : x = x' := by omega
  have e2 : h = h' := by omega
  subst e1 e2
  unfold dS at es
  simp only at es
  have e3 : s = s' := by omega
  rw [e3]
theorem tab_small {q0 : St} {i : Nat} {T : Tab} (k : TabOk lo hi q0 i T) (hi14 : i ≤ 14) : T.length ≤ 330513 := by
  have h := nd_lt 330513 ((T.map (·.1)).map (code q0)) (by
    refine List.pairwise_map.mpr (List.Pairwise.imp_of_mem (fun {a b} ha hb ne e => ?_) k.nd)
    obtain ⟨p, hp, rfl⟩ := List.mem_map.mp ha
    obtain ⟨p', hp', rfl⟩ := List.mem_map.mp hb
    exact ne (code_inj hi14 (k.key p hp).1 (k.key p' hp').1 e)) fun x hx => by
    obtain ⟨q, hq, rfl⟩ := List.mem_map.mp hx
    obtain ⟨p, hp, rfl⟩ := List.mem_map.mp hq
    exact code_lt hi14 (k.key p hp).1
  simpa using h
end HS
set_option maxHeartbeats 4000000
/-! Rules of this proof over dicts whose keys are tuples: the walk over items, the comprehension, the display of one pair; a field as a target. -/
namespace HSR
open PySem PySem.Spec PyProof.Rows L2
section
variable {X : Cx} {pins : List (Addr × Obj)} {σ : L2.St} {H : Hp} {s : Shared} {d : Addr} {o : Obj}
/-- the locked dict's entries: keys and values -/
theorem frzTV {kvs : List (List Key × V)} (I : Inv X pins σ H s) (h : H d = some (.frz o (.dT kvs))) :
    ∃ (es : Array DictEntry) (ep : Nat), (d == sysModules) = false ∧ s.heap.get? d = some o ∧ o.ExactDict ∧ o.data = .dict es ep ∧ es.size = kvs.length ∧
      ∀ (i : Nat) (hi : i < es.size) (k : List Key) (v : V), kvs[i]? = some (k, v) → ∃ q : Addr, es[i].key = .ref q ∧ H q = some (.tup (k.map kV)) ∧ RelV v es[i].val := by
  have big := I.hok d _ h
  obtain ⟨hd, _, nosys, rows, pr, o2, es, ep, ho2, exact2, dat2, ents, _⟩ := big
  have same : o2 = o := by
    have z := ho2
    rw [hd] at z
    exact (Option.some.inj z).symm
  subst same
  have n1 := size_of_entries ents
  have n2 : kvs.length = rows.length := Paired.length pr
  refine ⟨es, ep, nosys, hd, exact2, dat2, by omega, fun i hi k v e => ?_⟩
  obtain ⟨row, hrow, r1, r2, r3⟩ := paired_get pr e
  have q := entry_at ents i
  rw [Array.getElem?_eq_getElem hi, hrow, Option.map_some] at q
  have q' := Option.some.inj q
  refine ⟨row.2.1, by rw [q']; rfl, r2, ?_⟩
  rw [q']
  exact r3
end
/-- the pairs of a locked dict with tuple keys, each a new tuple of the key's tuple and the value -/
def ItT (d : Addr) (o : Obj) (kvs : List (List Key × V)) : It where
  go := fun i H => H d = some (.frz o (.dT kvs)) ∧ i < kvs.length
  yld := fun i H x H' => ∃ (T q : Addr) (k : List Key) (v : V), kvs[i]? = some (k, v) ∧ x = .ref T ∧ H q = some (.tup (k.map kV)) ∧ H T = none ∧ H' = upd H T (.tup [.ref q, v])
  stop := fun i H => H d = some (.frz o (.dT kvs)) ∧ kvs.length ≤ i
section
variable {P : Program} {w : World} {K : PySem.W.Frag} {d : Addr} {o : Obj} {es : Array DictEntry} {ep : Nat} {kvs : List (List Key × V)} {elts : List Expr} {kk : Nat} {tpos : Pos}
theorem turn_itemsT (it : Addr) (hod : o.data = .dict es ep) :
    Turn P w K (.Tuple elts kk tpos) (ItT d o kvs) [it] it (fun i h => ∃ ok ov, IsItemIter h it d i kvs.length ep ok ov) where
  mem := List.mem_singleton.mpr rfl
  obj := by
    intro i h st b hb
    obtain ⟨ok, ov, e⟩ := st
    obtain rfl := List.mem_singleton.mp hb
    exact ⟨_, e, fun v z => nomatch z⟩
  keep := by
    intro i h h' st k
    obtain ⟨ok, ov, e⟩ := st
    exact ⟨ok, ov, k it (List.mem_singleton.mpr rfl) _ e⟩
  item := by
    intro X hP hw hK hc i pins s σ H E I hf st hg
    subst hP hw hK
    obtain ⟨hd, hi⟩ := hg
    obtain ⟨es2, ep2, nosys, hgd, hx, hdt, hsz, ent⟩ := frzTV I hd
    obtain ⟨e1, e2⟩ := dict_ep hod hdt
    subst e1 e2
    obtain ⟨ok, ov, he⟩ := st
    rw [← hsz] at he
    have hi2 : i < es2.size := by omega
    have hkv : kvs[i]? = some (kvs[i].1, kvs[i].2) := by rw [List.getElem?_eq_getElem hi]
    obtain ⟨q, hkey, hq, hval⟩ := ent i hi2 _ _ hkv
    have hlt : it < s.heap.objs.size := Heap.lt_size he
    refine wpAny_pyNext_items_item_raw he ⟨o, hgd, hx, hdt⟩ hi2 fun h1 hout hT hz hk => ⟨_, rfl, ?_⟩
    refine wpAny_letOwnedTupleGo_items (s := { s with heap := h1 }) hout fun h2 hback sb => ?_
    have hT2 := (sb.2 _ (Nat.ne_of_gt hlt)).trans hT
    have isTup : ObjOk X.prog X.w (upd H s.heap.objs.size (.tup [.ref q, kvs[i].2])) h2 s.heap.objs.size (.tup [.ref q, kvs[i].2]) := by
      refine ⟨by show 2 ≤ sizeLine; decide, [es2[i].key, es2[i].val], .cons hkey (.cons hval .nil), ?_⟩
      exact ⟨_, hT2, rfl, _, rfl⟩
    have I2 := I.turnedNew (t' := s.toks) (ch := [it]) (T := s.heap.objs.size) (fun b ob hb e => (sb.2 b (fun z => hb (by rw [z]; exact List.mem_singleton.mpr rfl))).trans (hk b ob (fun z => hb (by rw [z]; exact List.mem_singleton.mpr rfl)) e)) hf (Nat.le_refl _) isTup
    refine ⟨.ref s.heap.objs.size, _, I2, rfl, ⟨_, q, _, _, hkv, rfl, hq, I.hok.fresh (Nat.le_refl _), rfl⟩, ⟨es2[i].key, es2[i].val, ?_⟩, ?_⟩
    · rw [← hsz]
      exact hback
    · intro b hb
      obtain rfl := List.mem_singleton.mp hb
      rw [upd_ne (Nat.ne_of_lt hlt)]
      exact (hf _ hb).1
  done := by
    intro X hP hw hK hc i pins s σ H E I hf st hg
    subst hP hw hK
    obtain ⟨hd, hi⟩ := hg
    obtain ⟨es2, ep2, nosys, hgd, hx, hdt, hsz, ent⟩ := frzTV I hd
    obtain ⟨e1, e2⟩ := dict_ep hod hdt
    subst e1 e2
    obtain ⟨ok, ov, he⟩ := st
    rw [← hsz] at he
    obtain ⟨f0, f1, f2, f3, f4, f5⟩ := hf it (List.mem_singleton.mpr rfl)
    refine wpAny_pyNext_items_end_raw (I.ok.hd hc) he ⟨o, hgd, hx, hdt⟩ (by omega) fun h1 eb => ⟨rfl, ?_⟩
    exact I.turned (t' := s.toks) (fun b ob hb e => eb b ob hb e) f0 f1 f3 f4 f5
  self := by
    intro A i s Q E st h
    obtain ⟨ok, ov, e⟩ := st
    exact PySem.W.kcp_self e h
end
/-- d.items() of a locked dict with tuple keys -/
def iItemsT (td : TE) : TI := fun σ H R => td σ H fun x H1 => ∃ d o kvs, x = .ref d ∧ H1 d = some (.frz o (.dT kvs)) ∧ R (ItT d o kvs) H1
theorem pi_itemsT {X : Cx} {e : Expr} {td : TE} {apos cpos tpos : Pos} {elts : List Expr} {kk : Nat} (he : PE X e td) (hbase : attributeBase e "items" X.env (eval e X.env) = eval e X.env := by rfl)
    (hline : (apos.endLine == cpos.line) = true := by rfl) : PI X (.Tuple elts kk tpos) (.Call (.Attribute e "items" apos) [] [] cpos) (iItemsT td) := by
  constructor
  intro pins s σ H R I h
  refine wpAny_Call_method (T := "dict") (id := "dict.items") hbase rfl hline F.plainAttrs_dict F.slot_dict_items F.type_dict_items ?_
  refine thn (he.run pins s σ H _ I h) fun u s1 hu => ?_
  obtain ⟨x, H1, I1, rx, d, o, kvs, rfl, hd, q⟩ := hu
  obtain rfl : u = Value.ref d := rx
  obtain ⟨es, ep, nosys, hgd, hx, hdt, hsz, ent⟩ := frzTV I1 hd
  have raw : s1.heap.DictRaw d es ep := ⟨o, hgd, hx, hdt⟩
  refine ⟨raw.typeIs, fun a z => ⟨o, by cases z; exact hgd, by first | exact hx.2.1 | exact hx.2.2 | exact hx.1⟩, ?_⟩
  have I2 := I1.kept (h' := s1.heap.push { cls := .type "dict_items", data := .fields #[.ref d] }) (t' := s1.toks) fun b ob z => Heap.get?_push_of_some _ z
  have walk : wpAny (model X.prog X.w) X.A (pyIter (.ref s1.heap.objs.size)) (PIE X pins σ (.Tuple elts kk tpos) R) X.xe { s1 with heap := s1.heap.push { cls := .type "dict_items", data := .fields #[.ref d] } } := by
    refine wpAny_pyIter_items_raw (d := d) ⟨_, Heap.get?_push_size _ rfl, rfl, rfl⟩ (raw.at fun ob z => Heap.get?_push_of_some _ z) ?_
    refine pi_one (tk := s1.toks) I2 _ (turn_itemsT _ hdt) ⟨.none, .none, ?_⟩ q
    rw [← hsz]
    exact Heap.get?_push_size _ rfl
  show wpAny _ _ (callWith cpos (.builtin "dict.items") [.ref d] [] []) _ X.xe s1
  exact method_meetsIn F.slot_dict_items F.entry_dict_items rfl (PySem.evalArgs_none ⟨rfl, raw.typeIs, F.args_dict_items_1 _, _, meets_dict_items_raw d nosys, ⟨es, ep, raw⟩, walk⟩)

/-! ### a field as a target -/
def gFld (K : PySem.W.Frag) (ta : TE) (f : Str) : TG := fun v σ H Q => ta σ H fun x H1 => ∃ a C dx fs, x = .ref a ∧ H1 a = some (.ins C dx fs) ∧ Cls K C ∧ NoAttr K C f ∧ fs.length < 1000 ∧ Q σ (upd H1 a (.ins C dx (putF f v fs)))
theorem pg_fld {X : Cx} {o : Expr} {ta : TE} {f : Str} {pos : Pos} (ho : PE X o ta) : PG X (.Attribute o f pos) (gFld X.K ta f) := by
  constructor
  intro pins s σ H v u Q I r h
  rw [arm_assign_Attribute]
  refine wpAny_bind (wpAny_holding (thn (ho.run pins s σ H _ I h) fun ov s1 h1 => ?_))
  obtain ⟨x, H1, I1, rx, a, C, dx, fs, rfl, ha, cl, na, few, q⟩ := h1
  obtain rfl : ov = Value.ref a := rx
  refine wpAny_bind (wpAny_standAt (wpAny_bind (wpAny_holding ?_)))
  exact setattr_ok I1 ha cl na few r fun s2 I2 => wpAny_release ⟨σ, _, I2, q⟩

/-! ### {key: value}, the key a tuple -/
def tOneT (tk tv : TE) : TE := fun σ H Q => ∀ p, H p = none → tk σ (upd H p (.dT [])) fun x H1 => tv σ H1 fun y H2 => ∃ (b : Addr) (k : List Key), x = .ref b ∧ H2 b = some (.tup (k.map kV)) ∧ H2 p = some (.dT []) ∧ Q (.ref p) (upd H2 p (.dT [(k, y)]))
theorem pe_oneT {X : Cx} {k v : Expr} {tk tv : TE} {pos : Pos} (hu : X.A.units + 1 < cLine) (hk : PE X k tk) (hv : PE X v tv) : PE X (.Dict [some k] [v] pos) (tOneT tk tv) := by
  constructor
  intro pins s σ H Q I q
  have room : (tupleKind (mixKind X.prog X.w)).room X.A := by
    first
      | exact tupleKind_room hu
      | exact tupleKind_room_in1 hu
      | (show X.A.units + 1 < cLine; exact hu)
      | exact Nat.lt_of_succ_lt hu
  have fresh := I.hok.fresh (Nat.le_refl s.heap.objs.size)
  have I1 := I.laid (a := s.heap.objs.size) (o := .dT []) (h' := s.heap.push { cls := .type "dict", data := .dict #[] }) (t' := s.toks) (fun _ _ z => Heap.get?_push_of_some _ z) (Nat.le_refl _) (dt_empty s.heap I.big)
  rw [arm_eval_Dict, zip_pairTrees [some k] [v] X.env pos rfl rfl, dictDisplay_pairs (pairTrees [some k] [v] X.env pos) (by intro z; cases z) (by show (1 : Nat) < 17; decide)]
  refine wpAny_bind (wpAny_standAt (wpAny_bind ?_))
  refine wpAny_subDictH (knd := tupleKind (mixKind X.prog X.w)) room (by show (1 : Nat) ≤ 15; decide) ?_
  refine pairTrees_cons_walk (thn (hk.run pins _ σ _ _ I1 (q _ fresh)) fun u s1 h1 => ?_)
  obtain ⟨x, H1, I2, rx, q1⟩ := h1
  refine thn (hv.run pins s1 σ H1 _ I2 q1) fun u2 s2 h2 => ?_
  obtain ⟨y, H2, I3, ry, b, ks, rfl, hb, hp, q2⟩ := h2
  obtain rfl : u = Value.ref b := rx
  refine pairTrees_nil_walk ?_
  obtain ⟨z, nosys, rows, rel, dd⟩ := dt_of I3.hok hp
  cases rel
  refine ⟨[(ks, b, u2)], ⟨rfl, rfl, key_of I3.hok hb, trivial⟩, dd, fun h' tk' dd' hs => wpAny_pure ?_⟩
  have dd2 : h'.DictOfH (tupleKind (mixKind X.prog X.w)) s.heap.objs.size [(ks, b, u2)] := dd'
  obtain ⟨ob, es, ep, e1, e2, e3, e4, _, e5⟩ := dd2
  have isD : ObjOk X.prog X.w (upd H2 s.heap.objs.size (.dT [(ks, y)])) h' s.heap.objs.size (.dT [(ks, y)]) := by
    refine ⟨by show 1 ≤ sizeLine; decide, nosys, [(ks, b, u2)], .cons ⟨rfl, ?_, ry⟩ .nil, ob, es, ep, e1, e2, e3, e4, e5⟩
    rw [upd_ne (ne_of hb hp (fun z => nomatch z))]
    exact hb
  exact ⟨.ref s.heap.objs.size, _, d_write (t' := tk') I3 (by rw [hp]; exact True.intro) hs ⟨ob, e1⟩ isD, rfl, q2⟩

/-! ### {k: v for ..}, the keys as the dict at D takes them -/
theorem dictSet_put {X : Cx} {pins : List (Addr × Obj)} {σ : L2.St} {H : Hp} {s : Shared} {E : Value → Shared → Prop} {D b : Addr} {kvs : List (List Key × V)} {k : List Key} {v : V} {r : Value} {Q : Unit → Shared → Prop} (hu : X.A.units + 1 < cLine)
    (I : Inv X pins σ H s) (hD : H D = some (.dT kvs)) (hb : H b = some (.tup (k.map kV))) (hz : kvs.length < sizeLine) (rv : RelV v r) (h : ∀ s', Inv X pins σ (upd H D (.dT (putK kvs k v))) s' → Q () s') :
    wpAny (model X.prog X.w) X.A (dictSet D (.ref b) r) Q E s := by
  have room : (tupleKind (mixKind X.prog X.w)).room X.A := by
    first
      | exact tupleKind_room hu
      | exact tupleKind_room_in1 hu
      | (show X.A.units + 1 < cLine; exact hu)
      | exact Nat.lt_of_succ_lt hu
  obtain ⟨z, nosys, rows, rel, dd⟩ := dt_of I.hok hD
  have n1 : rows.length ≤ sizeLine := by
    rw [← Paired.length rel]
    exact z
  have n2 : (putK kvs k v).length ≤ sizeLine := by
    have := length_putK kvs k v
    omega
  refine wpAny_dictSet_heap (hsz := n1) room (key_of I.hok hb) dd fun h' dd' hs => h _ ?_
  obtain ⟨ob, es, ep, e1, e2, e3, e4, _, e5⟩ := dd'
  refine d_write I (by rw [hD]; exact True.intro) hs ⟨ob, e1⟩ ⟨n2, nosys, _, (rel.put k hb rv).keeps fun c ys ec => ?_, ob, es, ep, e1, e2, e3, e4, e5⟩
  rw [upd_ne (ne_of ec hD (fun z => nomatch z))]
  exact ec
/-- what a turn of the comprehension asks: the new dict at D -/
def DcTurn (tt : TT) (tk tv : TE) (D : Addr) (Nx : Hp → Prop) (σ2 : L2.St) (H2 : Hp) : Prop := tt σ2 H2 fun b H3 =>
  if b = true then tk σ2 H3 fun y H4 => tv σ2 H4 fun z H5 => ∃ (kvs : List (List Key × V)) (k : List Key) (b : Addr), y = .ref b ∧ H5 b = some (.tup (k.map kV)) ∧ H5 D = some (.dT kvs) ∧ kvs.length < sizeLine ∧ Nx (upd H5 D (.dT (putK kvs k z)))
  else Nx H3
def tDcT (wi : TI) (g : TG) (tt : TT) (tk tv : TE) (vs : List Nat) : TE := fun σ H Q => wi σ H fun J H1 => ∀ D, H1 D = none → ∃ W : Nat → Nat → Hp → Prop, (∃ m, W 0 m (upd H1 D (.dT []))) ∧ ∀ i m H, W i m H →
  (J.stop i H ∧ Q (.ref D) H) ∨ (J.go i H ∧ ∃ Nx : Hp → Prop, (∀ H', Nx H' → ∃ m', m' < m ∧ W (i + 1) m' H') ∧ ∀ x H', J.yld i H x H' → g x (wipe σ vs) H' fun σ2 H2 => wipe σ2 vs = wipe σ vs ∧ DcTurn tt tk tv D Nx σ2 H2)
theorem dcT_core {X : Cx} {pins : List (Addr × Obj)} {s : Shared} {σ : L2.St} {H : Hp} {Q : VK} {pos' : Pos} {use : Option (Value → Sem Unit)} {Qf : Value → Shared → Prop} {kx vx tg iter : Expr} {ifs : List Expr} {scope : Scope} {own : List (Str × Nat)} {pos : Pos} {wi : TI} {g : TG} {tt : TT} {tk tv : TE} (hu : X.A.units + 1 < cLine) (hc : X.calm = true) (hN : X.N.Nodup) (I : Inv X pins σ H s) (hi : PI X tg iter wi) (blk : BlkOk X.N X.env.scope scope own)
    (hg : ∀ (s : Shared) (H : Hp) (C : Addr) (cl : List (Str × Addr)) (fp : List Addr), PG (X.blk s H scope (compEnvC scope cl C X.env) fp) tg g)
    (ht : ∀ (s : Shared) (H : Hp) (C : Addr) (cl : List (Str × Addr)) (fp : List Addr), PTs (X.blk s H scope (compEnvC scope cl C X.env) fp) ifs tt)
    (hk : ∀ (s : Shared) (H : Hp) (C : Addr) (cl : List (Str × Addr)) (fp : List Addr), PE (X.blk s H scope (compEnvC scope cl C X.env) fp) kx tk)
    (hv : ∀ (s : Shared) (H : Hp) (C : Addr) (cl : List (Str × Addr)) (fp : List Addr), PE (X.blk s H scope (compEnvC scope cl C X.env) fp) vx tv) (hs : ∀ x, foldedSetIterable iter X.env x = pure x)
    (h : tDcT wi g tt tk tv (own.map (·.2)) σ H Q)
    (fin : ∀ D C s' m H', Inv X pins σ H' s' → Q (.ref D) H' → s'.heap.Ns C m → FpOk X pins H' C → compPost (model X.prog X.w) X.A X.xe use Qf (.ref D) C (.ok .next) s') :
    wpAny (model X.prog X.w) X.A (comprehension (.DictComp kx vx [⟨tg, iter, ifs, 0⟩] scope pos) scope X.env pos' newDict false (eval iter X.env) use) Qf X.xe s := by
  have caught : ∀ y ∈ scope.names, y.2 = .free → ∃ c, X.env.cells.lookup y.1 = some c := by
    intro y hy e
    rcases blk.free y hy e with k | k
    · exact I.ok.has _ (.inl k)
    · exact I.ok.has _ (.inr k)
  refine wpAny_comprehension_free (use := use) rfl hs (closure_ok caught) blk.kind (fun y hy e => by rw [blk.uniq y hy, e]) ?_
  refine thn (hi.run pins s σ H _ I h) fun xv s1 hx => thn hx fun itv s2 h2 => ?_
  obtain ⟨it, fp, tn, J, H2, rfl, I2, T, st2, f2, q⟩ := h2
  refine wpAny_newObj_type (newEnv_comp ?_)
  -- D: the new dict; s3: it is laid
  generalize hD : s2.heap.objs.size = D
  obtain ⟨W, ⟨m0, w0⟩, turn⟩ := q D (I2.hok.fresh (Nat.le_of_eq hD))
  generalize hs3 : ({ s2 with heap := s2.heap.push { cls := .type "dict", data := .dict #[] } } : Shared) = s3
  have I3 : Inv X pins σ (upd H2 D (.dT [])) s3 := by
    rw [← hs3, ← hD]
    exact I2.laid (t' := s2.toks) (fun _ _ z => Heap.get?_push_of_some _ z) (Nat.le_refl _) (dt_empty s2.heap I2.big)
  have h3 : s3.heap = s2.heap.push { cls := .type "dict", data := .dict #[] } := by rw [← hs3]
  have below : ∀ b ∈ fp, b < s2.heap.objs.size := by
    intro b hb
    obtain ⟨o, e, _⟩ := T.obj _ _ st2 b hb
    exact Heap.lt_size e
  have f3 : ∀ b ∈ fp, FpOk X pins (upd H2 D (.dT [])) b ∧ b < s3.heap.objs.size := by
    intro b hb
    have lt := below b hb
    constructor
    · refine ⟨?_, (f2 b hb).2⟩
      rw [upd_ne (by rw [← hD]; exact Nat.ne_of_lt lt)]
      exact (f2 b hb).1
    · rw [h3, Heap.size_push]
      exact Nat.lt_succ_of_lt lt
  have st3 : tn 0 s3.heap := by
    refine T.keep _ _ _ st2 fun b _ o e => ?_
    rw [h3]
    exact Heap.get?_push_of_some _ e
  have I4 := block_start I3 blk hN f3
  have pg := hg s3 (upd H2 D (.dT [])) s3.heap.objs.size (cellsFrom (s3.heap.objs.size + 1) scope.names (cloFrom X.env.cells scope.names [])) fp
  have pt := ht s3 (upd H2 D (.dT [])) s3.heap.objs.size (cellsFrom (s3.heap.objs.size + 1) scope.names (cloFrom X.env.cells scope.names [])) fp
  have pk := hk s3 (upd H2 D (.dT [])) s3.heap.objs.size (cellsFrom (s3.heap.objs.size + 1) scope.names (cloFrom X.env.cells scope.names [])) fp
  have pv := hv s3 (upd H2 D (.dT [])) s3.heap.objs.size (cellsFrom (s3.heap.objs.size + 1) scope.names (cloFrom X.env.cells scope.names [])) fp
  have free3 : ∀ b ∈ fp, (upd H2 D (.dT [])) b = none := fun b hb => (f3 b hb).1.1
  show codeAny _ _ (.compStart (.DictComp kx vx [⟨tg, iter, ifs, 0⟩] scope pos) 0 (.ref it) (.ref D) (compEnvC scope (cellsFrom (s3.heap.objs.size + 1) scope.names (cloFrom X.env.cells scope.names [])) s3.heap.objs.size X.env)) (compPost (model X.prog X.w) X.A X.xe use Qf (.ref D) s3.heap.objs.size) { s3 with heap := pushCells (s3.heap.push { cls := .type "dict", data := .dict #[] }) scope.names }
  generalize hce : compEnvC scope (cellsFrom (s3.heap.objs.size + 1) scope.names (cloFrom X.env.cells scope.names [])) s3.heap.objs.size X.env = ce at I4 pg pt pk pv ⊢
  have cL : ce.locals = s3.heap.objs.size := by rw [← hce]; rfl
  generalize hH3 : upd H2 D (.dT []) = H3 at I3 I4 pg pt pk pv w0 free3 f3
  generalize hs4 : ({ s3 with heap := pushCells (s3.heap.push { cls := .type "dict", data := .dict #[] }) scope.names } : Shared) = s4 at I4 ⊢
  have st4 : tn 0 s4.heap := by
    refine T.keep _ _ _ st3 fun b _ o e => ?_
    rw [← hs4]
    exact pushCells_keeps _ _ _ _ (Heap.get?_push_of_some _ e)
  have still : ∀ {σ' : L2.St} {H' : Hp} {s' : Shared}, Inv (X.blk s3 H3 scope ce fp) [] σ' H' s' → (∀ b ∈ fp, H' b = none) → ∀ b ∈ fp, FpOk (X.blk s3 H3 scope ce fp) [] H' b := by
    intro σ' H' s' I' hn b hb
    refine ⟨hn b hb, (I'.ok.exf b hb).1, I'.ok.exfs b hb, .inl hb, fun x c e => (I'.ok.exf b hb).2 x c e, fun p hp => ?_⟩
    have hp' : p ∈ ([] : List (Addr × Obj)) ++ [] := hp
    cases hp'
  have loop : codeAny (model X.prog X.w) X.A (.compLoop (.DictComp kx vx [⟨tg, iter, ifs, 0⟩] scope pos) 0 (.ref it) (.ref D) ce) (compPost (model X.prog X.w) X.A X.xe use Qf (.ref D) s3.heap.objs.size) s4 := by
    refine compLoop_anyD (fun n s' => ∃ i H', Inv (X.blk s3 H3 scope ce fp) [] (wipe σ (own.map (·.2))) H' s' ∧ tn i s'.heap ∧ (∀ b ∈ fp, H' b = none) ∧ W i n H') ?_ m0 ⟨0, H3, I4, st4, free3, w0⟩
    rintro n s5 ⟨i, H5, I5, st5, n5, w5⟩
    rcases turn i n H5 w5 with ⟨stop, qq⟩ | ⟨go, Nx, hNx, step⟩
    · refine thnF (T.done (X.blk s3 H3 scope ce fp) rfl rfl rfl hc i [] s5 _ H5 (fun _ _ => False) I5 (still I5 n5) st5 stop) fun r s6 h6 => ?_
      obtain ⟨rfl, I6⟩ := h6
      have I7 : Inv X pins σ H5 s6 := by
        refine I3.call' (ch := fp) I6.os I6.base I6.hok I6.bare fun b hb => ?_
        obtain ⟨⟨g0, g1, g2, g3, g4, g5⟩, _⟩ := f3 b hb
        exact ⟨g3, g1, g4, g5⟩
      have noC : H5 s3.heap.objs.size = none := by
        have z : H5 ce.locals = none := I6.free
        rwa [cL] at z
      obtain ⟨m, hn, _⟩ := I6.loc
      replace hn : s6.heap.Ns ce.locals m := hn
      rw [cL] at hn
      exact fin D s3.heap.objs.size s6 m H5 I7 qq hn (I3.fpOk (Nat.le_refl _) noC)
    · refine thnF (T.item (X.blk s3 H3 scope ce fp) rfl rfl rfl hc i [] s5 _ H5 (fun _ _ => False) I5 (still I5 n5) st5 go) fun r s6 h6 => ?_
      obtain ⟨u, rfl, h6⟩ := h6
      refine thnF h6 fun _ s7 h7 => ?_
      obtain ⟨x, H7, I7, r7, y7, st7, n7⟩ := h7
      have I7' := I7.pinned (still I7 n7) (T.obj _ _ st7)
      refine thnF (pg.run _ s7 _ H7 x u _ I7' r7 (step x H7 y7)) fun _ s8 h8 => ?_
      obtain ⟨σ8, H8, I8, hw8, q8⟩ := h8
      refine thnF (pt.run _ s8 σ8 H8 _ I8 q8) fun b s9 h9 => ?_
      obtain ⟨H9, I9, q9⟩ := h9
      have close : ∀ {s' : Shared} {H' : Hp}, Inv (X.blk s3 H3 scope ce fp) ([] ++ pinsAt fp s7.heap) σ8 H' s' → Nx H' →
          ∃ m, m < n ∧ ∃ i H', Inv (X.blk s3 H3 scope ce fp) [] (wipe σ (own.map (·.2))) H' s' ∧ tn i s'.heap ∧ (∀ b ∈ fp, H' b = none) ∧ W i m H' := by
        intro s' H' I' nx
        obtain ⟨m', hm, w'⟩ := hNx H' nx
        have held : ∀ b ∈ fp, ∀ o, s7.heap.get? b = some o → s'.heap.get? b = some o ∧ H' b = none := by
          intro b hb o e
          have z := I'.pin (b, o) (List.mem_append_right _ (List.mem_append_right _ (mem_pinsAt hb e)))
          exact ⟨z.1, z.2.1⟩
        have hl : (wipe σ (own.map (·.2))).length = σ8.length := by
          rw [← hw8, wipe_length]
        refine ⟨m', hm, i + 1, H', (I'.unpinned (pins := [])).weak hl (fun j v e => ?_), T.keep _ _ _ st7 fun b hb o e => (held b hb o e).1, fun b hb => ?_, w'⟩
        · rw [← hw8] at e
          exact (wipe_some e).1
        · obtain ⟨o, e, _⟩ := T.obj _ _ st7 b hb
          exact (held b hb o e).2
      cases b with
      | false =>
        simp only [Bool.false_eq_true, if_false] at q9 ⊢
        exact close I9 q9
      | true =>
        simp only [if_true] at q9 ⊢
        refine thnF (pk.run _ s9 σ8 H9 _ I9 q9) fun z s10 h10 => ?_
        obtain ⟨yk, H10, I10, r10, q10⟩ := h10
        refine thnF (pv.run _ s10 σ8 H10 _ I10 q10) fun z2 s11 h11 => ?_
        obtain ⟨yv, H11, I11, r11, kvs, k, b, rfl, hb11, hD11, hz11, nx⟩ := h11
        obtain rfl : z = Value.ref b := r10
        exact dictSet_put (X := X.blk s3 H3 scope ce fp) hu I11 hD11 hb11 hz11 r11 fun s12 I12 => close I12 nx
  exact codeAny_compStart_dict loop (T.self X.A 0 _ _ _ st4 loop)
/-- name = {k: v for ..} on one line, the name a local -/
theorem ps_setDcT {X : Cx} {i : Nat} {y : Str} {py : Pos} {kx vx tg iter : Expr} {ifs : List Expr} {scope : Scope} {own : List (Str × Nat)} {pos spos : Pos} {wi : TI} {g : TG} {tt : TT} {tk tv : TE} (hu : X.A.units + 1 < cLine) (hc : X.calm = true) (hN : X.N.Nodup)
    (hy : X.N[i]? = some y) (hyl : X.env.scope.names.lookup y = some .local) (hsw : swapsWith (.DictComp kx vx [⟨tg, iter, ifs, 0⟩] scope pos) (some (.Name y py)) spos.line X.env = pure true) (hi : PI X tg iter wi) (blk : BlkOk X.N X.env.scope scope own)
    (hg : ∀ (s : Shared) (H : Hp) (C : Addr) (cl : List (Str × Addr)) (fp : List Addr), PG (X.blk s H scope (compEnvC scope cl C X.env) fp) tg g)
    (ht : ∀ (s : Shared) (H : Hp) (C : Addr) (cl : List (Str × Addr)) (fp : List Addr), PTs (X.blk s H scope (compEnvC scope cl C X.env) fp) ifs tt)
    (hk : ∀ (s : Shared) (H : Hp) (C : Addr) (cl : List (Str × Addr)) (fp : List Addr), PE (X.blk s H scope (compEnvC scope cl C X.env) fp) kx tk)
    (hv : ∀ (s : Shared) (H : Hp) (C : Addr) (cl : List (Str × Addr)) (fp : List Addr), PE (X.blk s H scope (compEnvC scope cl C X.env) fp) vx tv) (hs : ∀ x, foldedSetIterable iter X.env x = pure x := by intro _; rfl) :
    PS X (.Assign [.Name y py] (.DictComp kx vx [⟨tg, iter, ifs, 0⟩] scope pos) spos) (tAsg (tDcT wi g tt tk tv (own.map (·.2))) (gName i)) := by
  constructor
  intro pins s σ H D I h
  rw [exec_Assign_Name_used _ _ _ _ hsw]
  refine wpAny_bind (wpAny_standAt (wpAny_bind ?_))
  show wpAny _ X.A (do let _ ← comprehension (.DictComp kx vx [⟨tg, iter, ifs, 0⟩] scope pos) scope X.env (firstIterPos [⟨tg, iter, ifs, 0⟩] pos) newDict false (eval iter X.env) (some (assign (.Name y py) X.env))) _ _ s
  have h' : tDcT wi g tt tk tv (own.map (·.2)) σ H (fun x H1 => gName i x σ H1 D.nx) := h
  refine wpAny_bind (thn (dcT_core (Qf := fun _ s' => SP X pins D .next s') hu hc hN I hi blk hg ht hk hv hs h' fun L C s' m H' I' q hn f => ?_) fun _ s' hq => wpAny_pure (wpAny_pure hq))
  obtain ⟨g0, g1, g2, g3, g4, g5⟩ := f
  show wpAny _ _ (assign (.Name y py) X.env (.ref L)) _ _ _
  refine wpAny_assign_Name (store_ok2 (v := V.ref L) I' hN hy (.inl hyl) rfl (fun s2 I2 h2 => ?_) (.inr hyl))
  obtain ⟨a, sb, ha⟩ := h2
  have apart : C ≠ a := by
    rcases ha with z | z
    · rw [z]
      exact g1
    · exact fun e => g4 y a z e.symm
  refine ⟨m, hn.sameBut sb apart, fun h3 sb3 => ⟨_, H', ?_, q⟩⟩
  exact I2.turned (t' := s2.toks) (fun b o hb e => (sb3.2 b hb).trans e) g0 g1 g3 g4 g5
theorem sw_trueD {kx vx : Expr} {gs : List Comprehension} {scope : Scope} {pos py : Pos} {y : Str} {l : Nat} {env : Env} (hk : env.scope.kind = .function) (hy : env.scope.names.lookup y = some .local) (hl : (py.line == pos.line) = true)
    (ha : (scope.names.any fun (n, k) => n == y && (k == .local || k == .cell)) = false) : swapsWith (.DictComp kx vx gs scope pos) (some (.Name y py)) l env = pure true := by
  have ky : env.kindOf y = some .local := hy
  have kb : env.blockKind = .function := by
    unfold Env.blockKind
    rw [hk]
    rfl
  unfold swapsWith
  simp only [kb, ky, ha, Expr.pos, hl]
  rfl
end HSR
set_option maxHeartbeats 4000000
namespace Hs
open PySem L2 HSR
/-! ### what the top has left -/
abbrev cX (K : PySem.W.Frag) : Addr := He.ga K "Extents"
structure Txt (K : PySem.W.Frag) (mg : Str → Option Value) : Prop where
  isinstance_ : mg "isinstance" = none
  len_ : mg "len" = none
  all_ : mg "all" = none
  abs_ : mg "abs" = none
  sum_ : mg "sum" = none
  repr_ : mg "repr" = none
  min_ : mg "min" = none
  max_ : mg "max" = none
  int_ : mg "int" = none
  bool_ : mg "bool" = none
  tuple_ : mg "tuple" = none
  range_ : mg "range" = none
  gSTEPS : mg "STEPS" = some (.ref (He.ga K "STEPS"))
  steps : ∀ H, SqT K H (He.ga K "STEPS") [.str "E", .str "W", .str "U", .str "D"]
  gMAX_PATH_STEPS : ∃ t, mg "MAX_PATH_STEPS" = some (.int 10 t)
  gMAX_SHORTEST_STEPS : ∃ t, mg "MAX_SHORTEST_STEPS" = some (.int 14 t)
  gBand : mg "Band" = some (.ref (cB K))
  clB : Cls K (cB K)
  nLow : NoAttr K (cB K) "low_end"
  nHigh : NoAttr K (cB K) "high_end"
  clX : Cls K (cX K)
  nWidth : NoAttr K (cX K) "width"
  nClimb : NoAttr K (cX K) "climb"
  nDepth : NoAttr K (cX K) "depth"
  nBase : NoAttr K (cX K) "base"
  nLimit : NoAttr K (cX K) "limit"
  isB1 : PySem.W.findIn K (.ref (cB K)) "__class__" = some (some (.builtin "object.__class__"))
  isB2 : PySem.W.specialIn K (.builtin "object.__class__") "__get__" = some (some (.builtin "getset_descriptor.__get__"))
  isB3 : PySem.W.takesIn K (.builtin "object.__class__") = some true
  isB4 : PySem.W.mroIn K (cB K) (.type "object") = some true
  isB5 : PySem.W.kitOne K (.ref (cB K)) (.ref (cB K)) = some true
/-! ### defs as they are called -/
section
variable (P : Program) (w : World) (K : PySem.W.Frag) (mg : Str → Option Value) (base : Heap)
/-- the module's def x keeps sp; dvs: what fills up behind the values written -/
structure Fn (k : Nat) (x : Str) (dvs : List V) (ps : List Str) (sp : Sp) : Prop where
  at_ : mg x = some (.ref (He.ga K x))
  kp : PySem.W.keepIn K (.ref (He.ga K x)) = true
  ok : ∃ fd ds, FnOk P w K mg base CX0 k (He.ga K x) fd ps sp ∧ Vals dvs ds ∧ Binds K fd ps ds
/-- .. called with the keyword band behind n values -/
structure KFn (k n : Nat) (x : Str) (ps : List Str) (sp : Sp) : Prop where
  at_ : mg x = some (.ref (He.ga K x))
  kp : PySem.W.keepIn K (.ref (He.ga K x)) = true
  ok : ∃ fd, FnOk P w K mg base CX0 k (He.ga K x) fd ps sp ∧ KBn K fd ps n ["band"] (fun us ws => us ++ ws) (fun vs zs => vs ++ zs)
/-- a method of the class C -/
structure Mh (k : Nat) (C m : Str) (ps : List Str) (sp : Sp) : Prop where
  cl : Cls K (He.ga K C)
  me : Meth K (He.ga K C) m (He.ma K (He.ga K C) m)
  ok : ∃ fd, FnOk P w K mg base CX0 k (He.ma K (He.ga K C) m) fd ps sp ∧ Binds K fd ps []
/-- a class that is called -/
structure Mkr (k : Nat) (C : Str) (dvs : List V) (ps : List Str) (sp : Sp) : Prop where
  at_ : mg C = some (.ref (He.ga K C))
  mkr : Mk K (He.ga K C) (He.ma K (He.ga K C) "__init__")
  ok : ∃ fd ds, FnOk P w K mg base CX0 k (He.ma K (He.ga K C) "__init__") fd ps sp ∧ Vals dvs ds ∧ Binds K fd ps ds
end
section
variable {X : Cx} {k : Nat} {x m C : Str} {dvs : List V} {ps : List Str} {sp : Sp} {e o : Expr} {es : List Expr} {ta : TE} {t tk : TA} {p pos apos : Pos}
theorem pe_callF (F : Fn X.prog X.w X.K X.mg X.base k x dvs ps sp) (hr : Room k X.A) (ha : PA X (e :: es) t) (hg : Gl X x := by rfl) (hdb : (x == ("__debug__" : Str)) = false := by decide)
    (he : starEach (e :: es) X.env = (false, eval e X.env) :: starEach es X.env := by rfl) (hpl : (backTo pos (starEach es X.env)).any (·.1) = false := by rfl) : PE X (.Call (.Name x p) (e :: es) [] pos) (tCall sp dvs E0 t) := by
  obtain ⟨fd, ds, G, hd, hb⟩ := F.ok
  exact pe_call G hr hg F.at_ F.kp hb hd pass0 ha hdb he hpl
theorem pe_callKF {n : Nat} {kpos : Pos} {ke : Expr} (F : KFn X.prog X.w X.K X.mg X.base k n x ps sp) (hr : Room k X.A) (ha : PA X (e :: es) t) (hkw : PK X [⟨some "band", ke, kpos⟩] tk) (hg : Gl X x := by rfl)
    (hall : (backToKw pos (keywordEach [⟨some "band", ke, kpos⟩] X.env)).all (·.1.isSome) = true := by rfl) (hks : (backToKw pos (keywordEach [⟨some "band", ke, kpos⟩] X.env)).filterMap (·.1) = ([("band" : Str)] : List Str) := by rfl)
    (hdb : (x == ("__debug__" : Str)) = false := by decide) (he : starEach (e :: es) X.env = (false, eval e X.env) :: starEach es X.env := by rfl)
    (hpl : ((backTo pos (starEach (e :: es) X.env)).any (·.1) || (backToKw pos (keywordEach [⟨some "band", ke, kpos⟩] X.env)).any (·.1.isNone)) = false := by rfl) :
    PE X (.Call (.Name x p) (e :: es) [⟨some "band", ke, kpos⟩] pos) (tCallN n 1 sp (fun vs zs => vs ++ zs) E0 t tk) := by
  obtain ⟨fd, G, hb⟩ := F.ok
  exact pe_callN G hr hg F.at_ F.kp hb pass0 ha hkw hall hks hdb he hpl
theorem pe_methF {pl : Sem Bool} (F : Mh X.prog X.w X.K X.mg X.base k C m ps sp) (hr : Room k X.A) (ho : PE X o ta) (ha : PA X (e :: es) t) (hst : starEach (e :: es) X.env = (false, eval e X.env) :: starEach es X.env := by rfl) (hpl : (backTo pos (starEach es X.env)).any (·.1) = false := by rfl)
    (ht : eval (.Call (.Attribute o m apos) (e :: es) [] pos) X.env = (do
      let ov ← eval o X.env
      standAt apos.atName
      let (f, first) ← holding [ov] (getMethod ov m pl)
      callWith pos f first (backTo pos (starEach (e :: es) X.env)) (backToKw pos (keywordEach [] X.env))) := by rfl) :
    PE X (.Call (.Attribute o m apos) (e :: es) [] pos) (tMeth (He.ga X.K C) m sp [] E0 ta t) := by
  obtain ⟨fd, G, hb⟩ := F.ok
  exact pe_meth ho F.cl F.me G hr hb .nil pass0 ha hst hpl ht
theorem pe_makeF (F : Mkr X.prog X.w X.K X.mg X.base k C dvs ps sp) (hr : Room (k + 1) X.A) (ha : PA X (e :: es) t) (hg : Gl X C := by rfl) (hdb : (C == ("__debug__" : Str)) = false := by decide)
    (he : starEach (e :: es) X.env = (false, eval e X.env) :: starEach es X.env := by rfl) (hpl : (backTo pos (starEach es X.env)).any (·.1) = false := by rfl) : PE X (.Call (.Name C p) (e :: es) [] pos) (tMake (He.ga X.K C) sp dvs E0 t) := by
  obtain ⟨fd, ds, G, hd, hb⟩ := F.ok
  exact pe_make F.mkr G hr hg F.at_ hb hd pass0 ha hdb he hpl
theorem pe_make0F (F : Mkr X.prog X.w X.K X.mg X.base k C dvs ps sp) (hr : Room (k + 1) X.A) (hg : Gl X C := by rfl) (hdb : (C == ("__debug__" : Str)) = false := by decide) : PE X (.Call (.Name C p) [] [] pos) (tMake (He.ga X.K C) sp dvs E0 tNil) := by
  obtain ⟨fd, ds, G, hd, hb⟩ := F.ok
  exact pe_make0 F.mkr G hr hg F.at_ hb hd pass0 hdb
theorem pe_globI {i : Int} (h : ∃ t, X.mg x = some (.int i t)) (hg : Gl X x := by rfl) (hd : (x == ("__debug__" : Str)) = false := by decide) : PE X (.Name x pos) (tC (.int i)) := by
  obtain ⟨t, h⟩ := h
  exact pe_glob hg h ⟨t, rfl⟩ hd
theorem ip_mulH : PIp X .Mult (rI CMul fun i j => .int (i * j)) := fun pins s σ H x y v u Q I rx ry q => augR iop_mul I rx ry q
end
/-! ### what stands in the heap -/
def tri (q : HS.St) : List V := [.int q.1, .int q.2.1, .int q.2.2]
def oV : Option Int → V
  | none => .non
  | some i => .int i
/-- the state q stands at a -/
def StH (H : Hp) (a : Addr) (q : HS.St) : Prop := H a = some (.tup (tri q))
def RmH (H : Hp) (a : Addr) (r : HS.Room) : Prop := H a = some (.tup [oV r.1, oV r.2])
def bandF (lo hi : Option Int) : List (Str × V) := putF "high_end" (oV hi) (putF "low_end" (oV lo) [])
def BandH (K : PySem.W.Frag) (H : Hp) (a : Addr) (lo hi : Option Int) : Prop := ∃ dx, H a = some (.ins (cB K) dx (bandF lo hi))
def xtF (E : HS.Xt) : List (Str × V) := putF "limit" (oV E.limit) (putF "base" (.int E.base) (putF "depth" (oV E.depth) (putF "climb" (.int E.climb) (putF "width" (.int E.w) []))))
def XtH (K : PySem.W.Frag) (H : Hp) (a : Addr) (E : HS.Xt) : Prop := ∃ dx, H a = some (.ins (cX K) dx (xtF E))
/-- the argument band: None, or a band -/
def BandV (K : PySem.W.Frag) (H : Hp) (v : V) (lo hi : Option Int) : Prop := (v = .non ∧ lo = none ∧ hi = none) ∨ ∃ b, v = .ref b ∧ BandH K H b lo hi
section
variable {K : PySem.W.Frag} {H H' : Hp} {a : Addr} {q : HS.St} {lo hi : Option Int} {E : HS.Xt} {v : V} {r : HS.Room}
theorem StH.mono (s : Same H H') (h : StH H a q) : StH H' a q := s _ _ h
theorem RmH.mono (s : Same H H') (h : RmH H a r) : RmH H' a r := s _ _ h
theorem BandH.mono (s : Same H H') (h : BandH K H a lo hi) : BandH K H' a lo hi := by
  obtain ⟨dx, h⟩ := h
  exact ⟨dx, s _ _ h⟩
theorem XtH.mono (s : Same H H') (h : XtH K H a E) : XtH K H' a E := by
  obtain ⟨dx, h⟩ := h
  exact ⟨dx, s _ _ h⟩
theorem BandV.mono (s : Same H H') (h : BandV K H v lo hi) : BandV K H' v lo hi := by
  rcases h with h | ⟨b, e, h⟩
  · exact .inl h
  · exact .inr ⟨b, e, h.mono s⟩
theorem same_new {p : Addr} {o : HO} (n : H p = none) : Same H (upd H p o) := fun b u e => by
  rw [upd_ne (ne_of_none e n)]
  exact e
theorem bandF_low : (bandF lo hi).lookup ("low_end" : Str) = some (oV lo) := by
  unfold bandF
  rw [lookup_putF, if_neg (by decide +kernel), lookup_putF, if_pos rfl]
theorem bandF_high : (bandF lo hi).lookup ("high_end" : Str) = some (oV hi) := by
  unfold bandF
  rw [lookup_putF, if_pos rfl]
theorem bandF_no {m : Str} (h1 : ¬ m = "high_end") (h2 : ¬ m = "low_end") : (bandF lo hi).lookup m = none := by
  unfold bandF
  rw [lookup_putF, if_neg h1, lookup_putF, if_neg h2]
  rfl
theorem xtF_width : (xtF E).lookup ("width" : Str) = some (.int E.w) := by
  unfold xtF
  rw [lookup_putF, if_neg (by decide +kernel), lookup_putF, if_neg (by decide +kernel), lookup_putF, if_neg (by decide +kernel), lookup_putF, if_neg (by decide +kernel), lookup_putF, if_pos rfl]
theorem xtF_climb : (xtF E).lookup ("climb" : Str) = some (.int E.climb) := by
  unfold xtF
  rw [lookup_putF, if_neg (by decide +kernel), lookup_putF, if_neg (by decide +kernel), lookup_putF, if_neg (by decide +kernel), lookup_putF, if_pos rfl]
theorem xtF_depth : (xtF E).lookup ("depth" : Str) = some (oV E.depth) := by
  unfold xtF
  rw [lookup_putF, if_neg (by decide +kernel), lookup_putF, if_neg (by decide +kernel), lookup_putF, if_pos rfl]
theorem xtF_base : (xtF E).lookup ("base" : Str) = some (.int E.base) := by
  unfold xtF
  rw [lookup_putF, if_neg (by decide +kernel), lookup_putF, if_pos rfl]
theorem xtF_limit : (xtF E).lookup ("limit" : Str) = some (oV E.limit) := by
  unfold xtF
  rw [lookup_putF, if_pos rfl]
theorem xtF_no {m : Str} (h1 : ¬ m = "limit") (h2 : ¬ m = "base") (h3 : ¬ m = "depth") (h4 : ¬ m = "climb") (h5 : ¬ m = "width") : (xtF E).lookup m = none := by
  unfold xtF
  rw [lookup_putF, if_neg h1, lookup_putF, if_neg h2, lookup_putF, if_neg h3, lookup_putF, if_neg h4, lookup_putF, if_neg h5]
  rfl
theorem oV_non {o : Option Int} : decide (oV o = V.non) = o.isNone := by
  cases o <;> rfl
end
end Hs
set_option maxHeartbeats 4000000
namespace Hs
open PySem L2 HSR
abbrev FnP (K : PySem.W.Frag) (x : Str) (st : Stmt) (dvs : List V) (kws : List (Str × V)) (f : Addr) (fd : FuncData) : Prop := FunD K x x (defArgs st) (defBody st) (defScope st) dvs kws f fd
section
variable {P : Program} {w : World} {K : PySem.W.Frag} {mg : Str → Option Value} {base : Heap} {f : Addr} {fd : FuncData}
/-! ### is_integer -/
abbrev s_is_integer : Stmt := top 11
theorem sc_is_integer : FnScope ["value"] ["value"] (defScope s_is_integer) := ⟨rfl, rfl, rfl, by decide +kernel, rfl, by decide +kernel, by decide +kernel⟩
def spIsInt : Sp := fun vs H Q _ => ∃ i : Int, vs = [.int i] ∧ Q (.bl true) H
theorem ok_is_integer (T : Txt K mg) (F : FnP K "is_integer" s_is_integer [] [] f fd) : FnOk P w K mg base CX0 1 f fd ["value"] spIsInt := by
  refine F.ok sc_is_integer (fun vs H Q E h => ?_) (fun cdv A outer s H vs Q E hr h => ⟨_, PSs.nox (pss_one (ps_ret (pe_and (pe_callB call_isi (by rfl) T.isinstance_ (by decide +kernel) (pa_cons (pv 0) (pa_cons (pe_bltn (v := .ty "int") (by rfl) T.int_ (by decide +kernel) rfl) pa_nil))) (pe_one (pe_not (pe_callB call_isi (by rfl) T.isinstance_ (by decide +kernel) (pa_cons (pv 0) (pa_cons (pe_bltn (v := .ty "bool") (by rfl) T.bool_ (by decide +kernel) rfl) pa_nil)))))))), ?_⟩)
  · obtain ⟨i, rfl, _⟩ := h
    rfl
  · obtain ⟨i, rfl, q⟩ := h
    refine ⟨_, rfl, _, _, .type "int", .type "int", true, rfl, .ty _, .base (.int i), kit_ty (by decide +kernel), true, rfl, iteT ?_⟩
    refine ⟨_, rfl, _, _, .type "int", .type "bool", false, rfl, .ty _, .base (.int i), kit_ty (by decide +kernel), false, rfl, ?_⟩
    exact q
/-! ### check_integer -/
abbrev s_check_integer : Stmt := top 12
theorem sc_check_integer : FnScope ["value", "least"] ["value", "least"] (defScope s_check_integer) := ⟨rfl, rfl, rfl, by decide +kernel, rfl, by decide +kernel, by decide +kernel⟩
def spCheckInt : Sp := fun vs H Q _ => ∃ i : Int, (vs = [.int i, .non] ∨ ∃ l : Int, l ≤ i ∧ vs = [.int i, .int l]) ∧ Q .non H
theorem ok_check_integer (T : Txt K mg) (c_is_integer : Fn P w K mg base 1 "is_integer" [] ["value"] spIsInt) (F : FnP K "check_integer" s_check_integer [.non] [] f fd) : FnOk P w K mg base CX0 2 f fd ["value", "least"] spCheckInt := by
  refine F.ok sc_check_integer (fun vs H Q E h => ?_) (fun cdv A outer s H vs Q E hr h => ⟨_, PSs.nox (pss_one (ps_if (PW.pt (pw_or (pt_not (pt_val (pe_callF c_is_integer (hr.mono (by decide)) (pa_cons (pv 0) pa_nil)))) (pw_or1 (PW.pt (pw_and (pt_cmpR op_notN (pv 1) pe_non (nomark _)) (pw_and1 (pt_cmpR op_lt (pv 0) (pv 1) (nomark _)))))))) (pss_one ps_never) pss_nil)), ?_⟩)
  · obtain ⟨i, rfl | ⟨l, _, rfl⟩, _⟩ := h <;> rfl
  · obtain ⟨i, rfl | ⟨l, hl, rfl⟩, q⟩ := h
    · refine ⟨_, rfl, i, rfl, ⟨true, rfl, ?_⟩⟩
      refine iteF ?_
      refine ⟨_, rfl, rfl, _, rfl, iteF ?_⟩
      refine iteF q
    · refine ⟨_, rfl, i, rfl, ⟨true, rfl, ?_⟩⟩
      refine iteF ?_
      refine ⟨_, rfl, rfl, _, rfl, iteT ?_⟩
      refine ⟨_, rfl, _, rfl, _, _, rfl, rfl, _, rfl, ?_⟩
      have e : decide (i < l) = false := decide_eq_false (by omega)
      rw [e]
      exact iteF q
/-! ### is_state -/
abbrev s_is_state : Stmt := top 14
theorem sc_is_state : FnScope ["value", "item"] ["value"] (defScope s_is_state) := ⟨rfl, rfl, rfl, by decide +kernel, rfl, by decide +kernel, by decide +kernel⟩
def spIsState : Sp := fun vs H Q _ => ∃ (a : Addr) (q : HS.St), vs = [.ref a] ∧ StH H a q ∧ ∀ H', Same H H' → Q (.bl true) H'
theorem ok_is_state (T : Txt K mg) (c_is_integer : Fn P w K mg base 1 "is_integer" [] ["value"] spIsInt) (F : FnP K "is_state" s_is_state [] [] f fd) : FnOk P w K mg base CX0 2 f fd ["value"] spIsState := by
  refine F.ok sc_is_state (fun vs H Q E h => ?_) (fun cdv A outer s H vs Q E hr h => ⟨_, PSs.nox (pss_one (ps_ret (pe_and (pe_callB call_isi (by rfl) T.isinstance_ (by decide +kernel) (pa_cons (pv 0) (pa_cons (pe_bltn (v := .ty "tuple") (by rfl) T.tuple_ (by decide +kernel) rfl) pa_nil))) (pe_and (pe_cmpR op_eq (pe_callB call_len_seq (by rfl) T.len_ (by decide +kernel) (pa_cons (pv 0) pa_nil)) pe_int (nomark _)) (pe_one (pe_callB (cr_all rfl) (by rfl) T.all_ (by decide +kernel) (pa_cons (pe_lc (own := [("item", 1)]) (g := gName 1) (tt := tYes) rfl sc_is_state.nd (pi_tup (pv 0)) (blkOk_by (own := [("item", 1)]) (N := ["value", "item"]) (sc := defScope s_is_state) (by decide +kernel)) (fun _ _ _ _ _ => (pg_name (i := 1) sc_is_state.nd rfl (Or.inl rfl))) (fun _ _ _ _ _ => pts_nil) (fun _ _ _ _ _ => (pe_callF c_is_integer (hr.mono (by decide)) (pa_cons (pv 1) pa_nil)))) pa_nil))))))), ?_⟩)
  · obtain ⟨a, q, rfl, _⟩ := h
    rfl
  · obtain ⟨a, q, rfl, ha, k⟩ := h
    refine ⟨_, rfl, _, _, .type "tuple", .type "tuple", true, rfl, .ty _, .base (.tup ha), kit_ty (by decide +kernel), true, rfl, iteT ?_⟩
    refine ⟨_, rfl, a, _, rfl, .inr (SqT.of ha), rfl, true, rfl, iteT ?_⟩
    refine ⟨_, rfl, a, rfl, ⟨_, SqT.of ha⟩, fun D nD => ?_⟩
    refine lc_tup (K := K) (a := a) (xs := tri q) (fun i H' => Same H H' ∧ H' D = some (.lst ((List.replicate i true).map V.bl))) ⟨same_new nD, upd_same⟩ (fun i H' _ h => SqT.of (h.1 _ _ ha)) ?_ ?_
    · rintro i x H' hi ⟨s1, hD⟩
      obtain ⟨z, rfl⟩ : ∃ z : Int, x = .int z := by
        match i, hi with
        | 0, hi => exact ⟨_, (Option.some.inj hi).symm⟩
        | 1, hi => exact ⟨_, (Option.some.inj hi).symm⟩
        | 2, hi => exact ⟨_, (Option.some.inj hi).symm⟩
      have hi3 : i < 3 := (List.getElem?_eq_some_iff.mp hi).1
      refine ⟨rfl, _, rfl, z, rfl, _, hD, ?_, fun b o e => ?_, ?_⟩
      · simp
        exact Nat.lt_trans hi3 (by decide)
      · rw [upd_ne (ne_of_none e nD)]
        exact s1 b o e
      · rw [upd_same, List.replicate_succ', List.map_append]
        rfl
    · rintro H' ⟨s1, hD⟩
      exact ⟨D, List.replicate 3 true, rfl, SqL.of hD, k H' s1⟩
/-! ### check_state -/
abbrev s_check_state : Stmt := top 15
theorem sc_check_state : FnScope ["value"] ["value"] (defScope s_check_state) := ⟨rfl, rfl, rfl, by decide +kernel, rfl, by decide +kernel, by decide +kernel⟩
def spCheckState : Sp := fun vs H Q _ => ∃ (a : Addr) (q : HS.St), vs = [.ref a] ∧ StH H a q ∧ ∀ H', Same H H' → Q .non H'
theorem ok_check_state (T : Txt K mg) (c_is_state : Fn P w K mg base 2 "is_state" [] ["value"] spIsState) (F : FnP K "check_state" s_check_state [] [] f fd) : FnOk P w K mg base CX0 3 f fd ["value"] spCheckState := by
  refine F.ok sc_check_state (fun vs H Q E h => ?_) (fun cdv A outer s H vs Q E hr h => ⟨_, PSs.nox (pss_one (ps_if (pt_not (pt_val (pe_callF c_is_state (hr.mono (by decide)) (pa_cons (pv 0) pa_nil)))) (pss_one ps_never) pss_nil)), ?_⟩)
  · obtain ⟨a, q, rfl, _⟩ := h
    rfl
  · obtain ⟨a, q, rfl, ha, k⟩ := h
    refine ⟨_, rfl, a, q, rfl, ha, fun H' s1 => ⟨true, rfl, iteF ?_⟩⟩
    exact k H' s1
/-! ### after_step -/
abbrev s_after_step : Stmt := top 16
theorem sc_after_step : FnScope ["state", "step", "position", "height", "total"] ["state", "step"] (defScope s_after_step) := ⟨rfl, rfl, rfl, by decide +kernel, rfl, by decide +kernel, by decide +kernel⟩
def nm : HS.Sp → Str
  | .E => "E"
  | .W => "W"
  | .U => "U"
  | .D => "D"
def spAfter : Sp := fun vs H Q _ => ∃ (a : Addr) (q : HS.St) (c : HS.Sp), vs = [.ref a, .str (nm c)] ∧ StH H a q ∧ ∀ H' p, Same H H' → StH H' p (HS.aft q c) → Q (.ref p) H'
theorem ok_after_step (T : Txt K mg) (F : FnP K "after_step" s_after_step [] [] f fd) : FnOk P w K mg base CX0 1 f fd ["state", "step"] spAfter := by
  refine F.ok sc_after_step (fun vs H Q E h => ?_) (fun cdv A outer s H vs Q E hr h => ⟨_, PSs.nox (pss_cons (ps_asg (pv 0) (pg_tup rfl (pgs_cons (pg_name (i := 2) sc_after_step.nd rfl (Or.inl rfl)) (pgs_cons (pg_name (i := 3) sc_after_step.nd rfl (Or.inl rfl)) (pgs_cons (pg_name (i := 4) sc_after_step.nd rfl (Or.inl rfl)) pgs_nil))))) (pss_cons (ps_if (pt_cmpR op_eq (pv 1) pe_str (nomark _)) (pss_one (ps_ret (pe_tup (pa_cons (pe_op op_add (pv 2) pe_int) (pa_cons (pv 3) (pa_cons (pe_op op_add (pv 4) (pv 3)) pa_nil)))))) pss_nil) (pss_cons (ps_if (pt_cmpR op_eq (pv 1) pe_str (nomark _)) (pss_one (ps_ret (pe_tup (pa_cons (pe_op op_sub (pv 2) pe_int) (pa_cons (pv 3) (pa_cons (pe_op op_sub (pv 4) (pv 3)) pa_nil)))))) pss_nil) (pss_one (ps_ret (pe_tup (pa_cons (pv 2) (pa_cons (pe_op op_add (pv 3) (pe_ifExp (pt_cmpR op_eq (pv 1) pe_str (nomark _)) pe_int (pe_un un_neg pe_int))) (pa_cons (pv 4) pa_nil))))))))), ?_⟩)
  · obtain ⟨a, q, c, rfl, _⟩ := h
    rfl
  · obtain ⟨a, q, c, rfl, ha, k⟩ := h
    refine ⟨_, rfl, a, _, rfl, SqT.of ha, rfl, _, _, rfl, _, _, rfl, _, _, rfl, rfl, ?_⟩
    cases c with
    | E =>
      refine ⟨_, rfl, rfl, _, rfl, ?_⟩
      refine ite2 (fun _ => ?_) (fun z => absurd (by decide +kernel) z)
      refine ⟨_, rfl, _, _, rfl, rfl, _, rfl, _, rfl, _, rfl, _, _, rfl, rfl, by show 3 ≤ sizeLine; decide, fun p np => ?_⟩
      exact k _ p (same_new np) upd_same
    | W =>
      refine ⟨_, rfl, rfl, _, rfl, ?_⟩
      refine ite2 (fun z => absurd z (by decide +kernel)) (fun _ => ?_)
      refine ⟨_, rfl, rfl, _, rfl, ?_⟩
      refine ite2 (fun _ => ?_) (fun z => absurd (by decide +kernel) z)
      refine ⟨_, rfl, _, _, rfl, rfl, _, rfl, _, rfl, _, rfl, _, _, rfl, rfl, by show 3 ≤ sizeLine; decide, fun p np => ?_⟩
      exact k _ p (same_new np) upd_same
    | U =>
      refine ⟨_, rfl, rfl, _, rfl, ?_⟩
      refine ite2 (fun z => absurd z (by decide +kernel)) (fun _ => ?_)
      refine ⟨_, rfl, rfl, _, rfl, ?_⟩
      refine ite2 (fun z => absurd z (by decide +kernel)) (fun _ => ?_)
      refine ⟨_, rfl, _, rfl, _, rfl, rfl, _, rfl, ?_⟩
      refine ite2 (fun _ => ?_) (fun z => absurd (by decide +kernel) z)
      refine ⟨_, _, rfl, rfl, _, rfl, by show 3 ≤ sizeLine; decide, fun p np => ?_⟩
      exact k _ p (same_new np) upd_same
    | D =>
      refine ⟨_, rfl, rfl, _, rfl, ?_⟩
      refine ite2 (fun z => absurd z (by decide +kernel)) (fun _ => ?_)
      refine ⟨_, rfl, rfl, _, rfl, ?_⟩
      refine ite2 (fun z => absurd z (by decide +kernel)) (fun _ => ?_)
      refine ⟨_, rfl, _, rfl, _, rfl, rfl, _, rfl, ?_⟩
      refine ite2 (fun z => absurd z (by decide +kernel)) (fun _ => ?_)
      refine ⟨_, rfl, _, _, rfl, rfl, _, rfl, by show 3 ≤ sizeLine; decide, fun p np => ?_⟩
      exact k _ p (same_new np) upd_same
/-! ### difference -/
abbrev s_difference : Stmt := top 18
theorem sc_difference : FnScope ["start", "end", "x", "h"] ["start", "end"] (defScope s_difference) := ⟨rfl, rfl, rfl, by decide +kernel, rfl, by decide +kernel, by decide +kernel⟩
def spDiff : Sp := fun vs H Q _ => ∃ (a b : Addr) (q e : HS.St), vs = [.ref a, .ref b] ∧ StH H a q ∧ StH H b e ∧ (-(2 ^ 64) < HS.dX q e ∧ HS.dX q e < 2 ^ 64) ∧ ∀ H' p, Same H H' → StH H' p (HS.dX q e, HS.dH q e, HS.dS q e) → Q (.ref p) H'
theorem ok_difference (T : Txt K mg) (F : FnP K "difference" s_difference [] [] f fd) : FnOk P w K mg base CX0 1 f fd ["start", "end"] spDiff := by
  refine F.ok sc_difference (fun vs H Q E h => ?_) (fun cdv A outer s H vs Q E hr h => ⟨_, PSs.nox (pss_cons (ps_par (i := 2) (j := 3) (by rfl) sc_difference.nd rfl rfl (by decide) rfl rfl (pa_cons (pe_op op_sub (pe_ix ix_tup (pv 1) pe_int (fun _ _ => rfl)) (pe_ix ix_tup (pv 0) pe_int (fun _ _ => rfl))) (pa_cons (pe_op op_sub (pe_ix ix_tup (pv 1) pe_int (fun _ _ => rfl)) (pe_ix ix_tup (pv 0) pe_int (fun _ _ => rfl))) pa_nil)) (by rfl)) (pss_one (ps_ret (pe_tup (pa_cons (pv 2) (pa_cons (pv 3) (pa_cons (pe_op op_sub (pe_op op_sub (pe_ix ix_tup (pv 1) pe_int (fun _ _ => rfl)) (pe_ix ix_tup (pv 0) pe_int (fun _ _ => rfl))) (pe_op op_mul (pe_ix ix_tup (pv 0) pe_int (fun _ _ => rfl)) (pv 2))) pa_nil))))))), ?_⟩)
  · obtain ⟨a, b, q, e, rfl, _⟩ := h
    rfl
  · obtain ⟨a, b, q, e, rfl, ha, hb, hx, k⟩ := h
    refine ⟨_, rfl, b, _, _, _, rfl, rfl, SqT.of hb, atI_nat (j := 0) rfl, _, rfl, a, _, _, _, rfl, rfl, SqT.of ha, atI_nat (j := 0) rfl, _, _, rfl, rfl, ?_⟩
    refine ⟨_, rfl, b, _, _, _, rfl, rfl, SqT.of hb, atI_nat (j := 1) rfl, _, rfl, a, _, _, _, rfl, rfl, SqT.of ha, atI_nat (j := 1) rfl, _, _, rfl, rfl, ?_⟩
    refine ⟨_, _, rfl, ?_⟩
    refine ⟨_, rfl, _, rfl, ?_⟩
    refine ⟨_, rfl, b, _, _, _, rfl, rfl, SqT.of hb, atI_nat (j := 2) rfl, _, rfl, a, _, _, _, rfl, rfl, SqT.of ha, atI_nat (j := 2) rfl, _, _, rfl, rfl, ?_⟩
    refine ⟨_, rfl, a, _, _, _, rfl, rfl, SqT.of ha, atI_nat (j := 1) rfl, _, rfl, _, _, rfl, rfl, .inr hx, _, _, rfl, rfl, ?_⟩
    refine ⟨by show 3 ≤ sizeLine; decide, fun p np => ?_⟩
    exact k _ p (same_new np) upd_same
end
end Hs
set_option maxHeartbeats 4000000
namespace Hs
open PySem L2 HSR
section
variable {P : Program} {w : World} {K : PySem.W.Frag} {mg : Str → Option Value} {base : Heap} {f : Addr} {fd : FuncData}
abbrev FnM (K : PySem.W.Frag) (m qual : Str) (st : Stmt) (dvs : List V) (f : Addr) (fd : FuncData) : Prop := FunD K m qual (defArgs st) (defBody st) (defScope st) dvs [] f fd
/-! ### Band.includes -/
abbrev s_Band_includes : Stmt := inClass (top 20) 5
theorem sc_Band_includes : FnScope ["self", "height"] ["self", "height"] (defScope s_Band_includes) := ⟨rfl, rfl, rfl, by decide +kernel, rfl, by decide +kernel, by decide +kernel⟩
def spIncludes (K : PySem.W.Frag) : Sp := fun vs H Q _ => ∃ (a : Addr) (lo hi : Option Int) (h : Int), vs = [.ref a, .int h] ∧ BandH K H a lo hi ∧ Q (.bl (HS.ins lo hi h)) H
theorem ok_includes (T : Txt K mg) (F : FnM K "includes" "Band.includes" s_Band_includes [] f fd) : FnOk P w K mg base CX0 1 f fd ["self", "height"] (spIncludes K) := by
  refine F.ok sc_Band_includes (fun vs H Q E h => ?_) (fun cdv A outer s H vs Q E hr h => ⟨_, PSs.nox (pss_one (ps_ret (pe_and (pe_or (pe_cmpR op_isN (pe_fld (pv 0) rfl) pe_non (nomark _)) (pe_one (pe_cmpR op_ge (pv 1) (pe_fld (pv 0) rfl) (nomark _)))) (pe_one (pe_or (pe_cmpR op_isN (pe_fld (pv 0) rfl) pe_non (nomark _)) (pe_one (pe_cmpR op_le (pv 1) (pe_fld (pv 0) rfl) (nomark _)))))))), ?_⟩)
  · obtain ⟨a, lo, hi, h, rfl, _⟩ := h
    rfl
  · obtain ⟨a, lo, hi, h, rfl, ⟨dx, hb⟩, k⟩ := h
    have second : ∀ b : Bool, (b = true → ∃ p : V, p = .ref a ∧ True) → True := fun _ _ => trivial
    cases lo with
    | none =>
      refine ⟨_, rfl, a, _, dx, _, _, rfl, hb, T.clB, T.nLow, bandF_low, rfl, true, rfl, true, rfl, ?_⟩
      cases hi with
      | none =>
        refine ⟨_, rfl, a, _, dx, _, _, rfl, hb, T.clB, T.nHigh, bandF_high, rfl, true, rfl, ?_⟩
        exact k
      | some u =>
        refine ⟨_, rfl, a, _, dx, _, _, rfl, hb, T.clB, T.nHigh, bandF_high, rfl, false, rfl, ?_⟩
        refine ⟨_, rfl, _, rfl, a, _, dx, _, _, rfl, hb, T.clB, T.nHigh, bandF_high, _, _, rfl, rfl, ?_⟩
        exact k
    | some l =>
      refine ⟨_, rfl, a, _, dx, _, _, rfl, hb, T.clB, T.nLow, bandF_low, rfl, false, rfl, ?_⟩
      refine ⟨_, rfl, _, rfl, a, _, dx, _, _, rfl, hb, T.clB, T.nLow, bandF_low, _, _, rfl, rfl, _, rfl, ?_⟩
      have e : HS.ins (some l) hi h = (decide (l ≤ h) && HS.inH hi h) := rfl
      rw [e] at k
      by_cases c : l ≤ h
      · rw [decide_eq_true c, Bool.true_and] at k
        rw [decide_eq_true c]
        cases hi with
        | none =>
          refine ⟨_, rfl, a, _, dx, _, _, rfl, hb, T.clB, T.nHigh, bandF_high, rfl, true, rfl, ?_⟩
          exact k
        | some u =>
          refine ⟨_, rfl, a, _, dx, _, _, rfl, hb, T.clB, T.nHigh, bandF_high, rfl, false, rfl, ?_⟩
          refine ⟨_, rfl, _, rfl, a, _, dx, _, _, rfl, hb, T.clB, T.nHigh, bandF_high, _, _, rfl, rfl, ?_⟩
          exact k
      · rw [decide_eq_false c, Bool.false_and] at k
        rw [decide_eq_false c]
        exact k
/-! ### Band.room -/
abbrev s_Band_room : Stmt := inClass (top 20) 8
theorem sc_Band_room : FnScope ["self", "height", "below"] ["self", "height"] (defScope s_Band_room) := ⟨rfl, rfl, rfl, by decide +kernel, rfl, by decide +kernel, by decide +kernel⟩
def spRoom (K : PySem.W.Frag) : Sp := fun vs H Q _ => ∃ (a : Addr) (lo hi : Option Int) (h : Int), vs = [.ref a, .int h] ∧ BandH K H a lo hi ∧ HS.ins lo hi h = true ∧ ∀ H' p, Same H H' → RmH H' p (HS.roomOf lo hi h) → Q (.ref p) H'
theorem ok_room (T : Txt K mg) (c_check_integer1 : Fn P w K mg base 2 "check_integer" [.non] ["value", "least"] spCheckInt) (m_Band_includes : Mh P w K mg base 1 "Band" "includes" ["self", "height"] (spIncludes K))
    (F : FnM K "room" "Band.room" s_Band_room [] f fd) : FnOk P w K mg base CX0 3 f fd ["self", "height"] (spRoom K) := by
  refine F.ok sc_Band_room (fun vs H Q E h => ?_) (fun cdv A outer s H vs Q E hr h => ⟨_, PSs.nox (pss_cons (ps_expr (pe_callF c_check_integer1 (hr.mono (by decide)) (pa_cons (pv 1) pa_nil))) (pss_cons (ps_if (pt_not (pt_val (pe_methF m_Band_includes (hr.mono (by decide)) (pv 0) (pa_cons (pv 1) pa_nil)))) (pss_one ps_never) pss_nil) (pss_cons (ps_set (i := 2) sc_Band_room.nd rfl (Or.inl rfl) (pe_ifExp (pt_cmpR op_isN (pe_fld (pv 0) rfl) pe_non (nomark _)) pe_non (pe_op op_sub (pv 1) (pe_fld (pv 0) rfl)))) (pss_one (ps_ret (pe_tup (pa_cons (pv 2) (pa_cons (pe_ifExp (pt_cmpR op_isN (pe_fld (pv 0) rfl) pe_non (nomark _)) pe_non (pe_op op_sub (pe_fld (pv 0) rfl) (pv 1))) pa_nil)))))))), ?_⟩)
  · obtain ⟨a, lo, hi, h, rfl, _⟩ := h
    rfl
  · obtain ⟨a, lo, hi, h, rfl, hB, hin, k⟩ := h
    obtain ⟨dx, hb⟩ := id hB
    refine ⟨_, rfl, h, .inl rfl, ?_⟩
    refine ⟨_, rfl, a, dx, _, rfl, hb, bandF_no (by decide +kernel) (by decide +kernel), _, rfl, a, lo, hi, h, rfl, hB, ?_⟩
    rw [hin]
    refine ⟨true, rfl, ?_⟩
    cases lo with
    | none =>
      refine ⟨_, rfl, a, _, dx, _, _, rfl, hb, T.clB, T.nLow, bandF_low, rfl, true, rfl, ?_⟩
      cases hi with
      | none =>
        refine ⟨_, rfl, _, rfl, a, _, dx, _, _, rfl, hb, T.clB, T.nHigh, bandF_high, rfl, true, rfl, by show 2 ≤ sizeLine; decide, fun p np => ?_⟩
        exact k _ p (same_new np) upd_same
      | some u =>
        refine ⟨_, rfl, _, rfl, a, _, dx, _, _, rfl, hb, T.clB, T.nHigh, bandF_high, rfl, false, rfl, ?_⟩
        refine ⟨_, rfl, a, _, dx, _, _, rfl, hb, T.clB, T.nHigh, bandF_high, _, rfl, _, _, rfl, rfl, by show 2 ≤ sizeLine; decide, fun p np => ?_⟩
        exact k _ p (same_new np) upd_same
    | some l =>
      refine ⟨_, rfl, a, _, dx, _, _, rfl, hb, T.clB, T.nLow, bandF_low, rfl, false, rfl, ?_⟩
      refine ⟨_, rfl, _, rfl, a, _, dx, _, _, rfl, hb, T.clB, T.nLow, bandF_low, _, _, rfl, rfl, ?_⟩
      cases hi with
      | none =>
        refine ⟨_, rfl, _, rfl, a, _, dx, _, _, rfl, hb, T.clB, T.nHigh, bandF_high, rfl, true, rfl, by show 2 ≤ sizeLine; decide, fun p np => ?_⟩
        exact k _ p (same_new np) upd_same
      | some u =>
        refine ⟨_, rfl, _, rfl, a, _, dx, _, _, rfl, hb, T.clB, T.nHigh, bandF_high, rfl, false, rfl, ?_⟩
        refine ⟨_, rfl, a, _, dx, _, _, rfl, hb, T.clB, T.nHigh, bandF_high, _, rfl, _, _, rfl, rfl, by show 2 ≤ sizeLine; decide, fun p np => ?_⟩
        exact k _ p (same_new np) upd_same
/-! ### Band.__init__ -/
abbrev s_Band___init__ : Stmt := inClass (top 20) 0
theorem sc_Band___init__ : FnScope ["self", "low", "high", "end"] ["self", "low", "high"] (defScope s_Band___init__) := ⟨rfl, rfl, rfl, by decide +kernel, rfl, by decide +kernel, by decide +kernel⟩
def spBandInit (K : PySem.W.Frag) : Sp := fun vs H Q _ => ∃ (a dx : Addr) (lo hi : Option Int), vs = [.ref a, oV lo, oV hi] ∧ H a = some (.ins (cB K) dx []) ∧ (∀ l u, lo = some l → hi = some u → l ≤ u) ∧
  ∀ H', (∀ b o, H b = some o → b ≠ a → H' b = some o) → BandH K H' a lo hi → Q .non H'
theorem ok_band_init (T : Txt K mg) (c_is_integer : Fn P w K mg base 1 "is_integer" [] ["value"] spIsInt) (F : FnM K "__init__" "Band.__init__" s_Band___init__ [.non, .non] f fd) : FnOk P w K mg base CX0 2 f fd ["self", "low", "high"] (spBandInit K) := by
  refine F.ok sc_Band___init__ (fun vs H Q E h => ?_) (fun cdv A outer s H vs Q E hr h => ⟨_, PSs.nox (pss_cons (ps_if (pt_not (pt_val (pe_callB (cr_all rfl) (by rfl) T.all_ (by decide +kernel) (pa_cons (pe_lc (own := [("end", 3)]) (g := gName 3) (tt := tYes) rfl sc_Band___init__.nd (pi_tup (pe_tup (pa_cons (pv 1) (pa_cons (pv 2) pa_nil)))) (blkOk_by (own := [("end", 3)]) (N := ["self", "low", "high", "end"]) (sc := defScope s_Band___init__) (by decide +kernel)) (fun _ _ _ _ _ => (pg_name (i := 3) sc_Band___init__.nd rfl (Or.inl rfl))) (fun _ _ _ _ _ => pts_nil) (fun _ _ _ _ _ => (pe_or (pe_cmpR op_isN (pv 3) pe_non (nomark _)) (pe_one (pe_callF c_is_integer (hr.mono (by decide)) (pa_cons (pv 3) pa_nil)))))) pa_nil)))) (pss_one ps_never) pss_nil) (pss_cons (ps_if (PW.pt (pw_and (pt_cmpR op_notN (pv 1) pe_non (nomark _)) (pw_and (pt_cmpR op_notN (pv 2) pe_non (nomark _)) (pw_and1 (pt_cmpR op_gt (pv 1) (pv 2) (nomark _)))))) (pss_one ps_never) pss_nil) (pss_cons (ps_fld (pv 0) (pv 1) rfl) (pss_one (ps_fld (pv 0) (pv 2) rfl))))), ?_⟩)
  · obtain ⟨a, dx, lo, hi, rfl, _⟩ := h
    rfl
  · obtain ⟨a, dx, lo, hi, rfl, ha, hle, k⟩ := h
    refine ⟨_, rfl, _, rfl, by show 2 ≤ sizeLine; decide, fun p np => ?_⟩
    refine ⟨p, rfl, ⟨_, SqT.of upd_same⟩, fun D nD => ?_⟩
    have hpD : ∀ H', Same (upd H p (.tup [oV lo, oV hi])) H' → H' p = some (.tup [oV lo, oV hi]) := fun H' s => s _ _ upd_same
    refine lc_tup (K := K) (a := p) (xs := [oV lo, oV hi]) (fun i H' => Same (upd H p (.tup [oV lo, oV hi])) H' ∧ H' D = some (.lst ((List.replicate i true).map V.bl))) ⟨same_new nD, upd_same⟩ (fun i H' _ h => SqT.of (hpD _ h.1)) ?_ ?_
    · rintro i x H' hi' ⟨s1, hD⟩
      obtain ⟨z, rfl⟩ : ∃ z : Option Int, x = oV z := by
        match i, hi' with
        | 0, hi' => exact ⟨_, (Option.some.inj hi').symm⟩
        | 1, hi' => exact ⟨_, (Option.some.inj hi').symm⟩
      have hi3 : i < 2 := (List.getElem?_eq_some_iff.mp hi').1
      have fin : ∃ acc, H' D = some (.lst acc) ∧ acc.length < sizeLine ∧ Same (upd H p (.tup [oV lo, oV hi])) (upd H' D (.lst (acc ++ [V.bl true]))) ∧ (upd H' D (.lst (acc ++ [V.bl true]))) D = some (.lst ((List.replicate (i + 1) true).map V.bl)) := by
        refine ⟨_, hD, ?_, fun b o e => ?_, ?_⟩
        · simp
          exact Nat.lt_trans hi3 (by decide)
        · rw [upd_ne (ne_of_none e nD)]
          exact s1 b o e
        · rw [upd_same, List.replicate_succ', List.map_append]
          rfl
      cases z with
      | none => exact ⟨rfl, _, rfl, rfl, true, rfl, fin⟩
      | some z => exact ⟨rfl, _, rfl, rfl, false, rfl, _, rfl, z, rfl, fin⟩
    · rintro H' ⟨s1, hD⟩
      refine ⟨D, List.replicate 2 true, rfl, SqL.of hD, true, rfl, ?_⟩
      have ha' : H' a = some (.ins (cB K) dx []) := s1 _ _ (by rw [upd_ne (ne_of_none ha np)]; exact ha)
      have keep : ∀ b o, H b = some o → b ≠ a → H' b = some o := fun b o e _ => s1 _ _ (by rw [upd_ne (ne_of_none e np)]; exact e)
      have fin : ∀ {D : Ends}, D.nx = (fun _ H' => Q .non H') → tSeq (sFld K (tVar 0) (tVar 1) "low_end") (sFld K (tVar 0) (tVar 2) "high_end") D [some (.ref a), some (oV lo), some (oV hi), none] H' := by
        intro D eD
        refine ⟨_, rfl, _, rfl, a, cB K, dx, [], rfl, ha', T.clB, T.nLow, by show 0 < 1000; decide, ?_⟩
        refine ⟨_, rfl, _, rfl, a, cB K, dx, _, rfl, upd_same, T.clB, T.nHigh, by show 1 < 1000; decide, ?_⟩
        rw [eD]
        refine k _ (fun b o e hb => ?_) ⟨dx, upd_same⟩
        rw [upd_ne hb, upd_ne hb]
        exact keep b o e hb
      cases lo with
      | none =>
        refine ⟨_, rfl, rfl, false, rfl, ?_⟩
        exact fin rfl
      | some l =>
        refine ⟨_, rfl, rfl, true, rfl, ?_⟩
        cases hi with
        | none =>
          refine ⟨_, rfl, rfl, false, rfl, ?_⟩
          exact fin rfl
        | some u =>
          refine ⟨_, rfl, rfl, true, rfl, _, rfl, _, rfl, _, _, rfl, rfl, _, rfl, ?_⟩
          have := hle l u rfl rfl
          rw [decide_eq_false (show ¬ u < l by omega)]
          exact fin rfl
/-! ### to_band -/
abbrev s_to_band : Stmt := top 21
theorem sc_to_band : FnScope ["value"] ["value"] (defScope s_to_band) := ⟨rfl, rfl, rfl, by decide +kernel, rfl, by decide +kernel, by decide +kernel⟩
def spToBand (K : PySem.W.Frag) : Sp := fun vs H Q _ => ∃ (v : V) (lo hi : Option Int), vs = [v] ∧ BandV K H v lo hi ∧ ∀ H' p, Same H H' → BandH K H' p lo hi → Q (.ref p) H'
theorem ok_to_band (T : Txt K mg) (k_Band0 : Mkr P w K mg base 2 "Band" [.non, .non] ["self", "low", "high"] (spBandInit K)) (F : FnP K "to_band" s_to_band [] [] f fd) : FnOk P w K mg base CX0 4 f fd ["value"] (spToBand K) := by
  refine F.ok sc_to_band (fun vs H Q E h => ?_) (fun cdv A outer s H vs Q E hr h => ⟨_, PSs.nox (pss_cons (ps_if (pt_cmpR op_isN (pv 0) pe_non (nomark _)) (pss_one (ps_ret (pe_make0F k_Band0 (hr.mono (by decide))))) pss_nil) (pss_cons (ps_if (pt_not (pt_val (pe_callB call_isi (by rfl) T.isinstance_ (by decide +kernel) (pa_cons (pv 0) (pa_cons (pe_glob (v := .ref (He.ga K "Band")) rfl T.gBand rfl) pa_nil))))) (pss_one ps_never) pss_nil) (pss_one (ps_ret (pv 0))))), ?_⟩)
  · obtain ⟨v, lo, hi, rfl, _⟩ := h
    rfl
  · obtain ⟨v, lo, hi, rfl, hv, k⟩ := h
    rcases hv with ⟨rfl, rfl, rfl⟩ | ⟨b, rfl, hB⟩
    · refine ⟨_, rfl, rfl, true, rfl, ?_⟩
      intro x dx nx ndx ne
      refine ⟨x, dx, none, none, rfl, upd_same, (fun l u e => by cases e), fun H' keep hB => ⟨rfl, ?_⟩⟩
      refine k H' x (fun b o e => ?_) hB
      exact keep b o (by rw [upd_ne (ne_of_none e nx), upd_ne (ne_of_none e ndx)]; exact e) (ne_of_none e nx)
    · obtain ⟨dx, hb⟩ := id hB
      refine ⟨_, rfl, rfl, false, rfl, ?_⟩
      refine ⟨_, rfl, _, _, .ref (cB K), .ref (cB K), true, rfl, .own _, .base (.ins hb T.clB T.isB1 T.isB2 T.isB3 T.isB4), T.isB5, true, rfl, ?_⟩
      refine ⟨_, rfl, ?_⟩
      exact k H b (Same.refl H) hB
/-! ### check_height -/
abbrev s_check_height : Stmt := top 22
theorem sc_check_height : FnScope ["height", "band"] ["height", "band"] (defScope s_check_height) := ⟨rfl, rfl, rfl, by decide +kernel, rfl, by decide +kernel, by decide +kernel⟩
def spCheckHeight (K : PySem.W.Frag) : Sp := fun vs H Q _ => ∃ (a : Addr) (lo hi : Option Int) (h : Int), vs = [.int h, .ref a] ∧ BandH K H a lo hi ∧ HS.ins lo hi h = true ∧ Q .non H
theorem ok_check_height (T : Txt K mg) (m_Band_includes : Mh P w K mg base 1 "Band" "includes" ["self", "height"] (spIncludes K)) (F : FnP K "check_height" s_check_height [] [] f fd) : FnOk P w K mg base CX0 2 f fd ["height", "band"] (spCheckHeight K) := by
  refine F.ok sc_check_height (fun vs H Q E h => ?_) (fun cdv A outer s H vs Q E hr h => ⟨_, PSs.nox (pss_one (ps_if (pt_not (pt_val (pe_methF m_Band_includes (hr.mono (by decide)) (pv 1) (pa_cons (pv 0) pa_nil)))) (pss_one ps_never) pss_nil)), ?_⟩)
  · obtain ⟨a, lo, hi, h, rfl, _⟩ := h
    rfl
  · obtain ⟨a, lo, hi, h, rfl, hB, hin, k⟩ := h
    obtain ⟨dx, hb⟩ := id hB
    refine ⟨_, rfl, a, dx, _, rfl, hb, bandF_no (by decide +kernel) (by decide +kernel), _, rfl, a, lo, hi, h, rfl, hB, ?_⟩
    rw [hin]
    exact ⟨true, rfl, k⟩
/-! ### capped -/
abbrev s_capped : Stmt := top 24
theorem sc_capped : FnScope ["number", "limit"] ["number", "limit"] (defScope s_capped) := ⟨rfl, rfl, rfl, by decide +kernel, rfl, by decide +kernel, by decide +kernel⟩
def spCapped : Sp := fun vs H Q _ => ∃ (n : Int) (l : Option Int), vs = [.int n, oV l] ∧ Q (.int (HS.capI n l)) H
theorem ok_capped (T : Txt K mg) (F : FnP K "capped" s_capped [] [] f fd) : FnOk P w K mg base CX0 1 f fd ["number", "limit"] spCapped := by
  refine F.ok sc_capped (fun vs H Q E h => ?_) (fun cdv A outer s H vs Q E hr h => ⟨_, PSs.nox (pss_one (ps_ret (pe_ifExp (pt_cmpR op_isN (pv 1) pe_non (nomark _)) (pv 0) (pe_callB (call_min2 rfl) (by rfl) T.min_ (by decide +kernel) (pa_cons (pv 0) (pa_cons (pv 1) pa_nil)))))), ?_⟩)
  · obtain ⟨n, l, rfl, _⟩ := h
    rfl
  · obtain ⟨n, l, rfl, k⟩ := h
    cases l with
    | none => exact ⟨_, rfl, rfl, true, rfl, _, rfl, k⟩
    | some l =>
      refine ⟨_, rfl, rfl, false, rfl, _, rfl, _, rfl, _, _, rfl, ?_⟩
      have e : (if l < n then l else n) = HS.capI n (some l) := by
        simp only [HS.capI]
        split <;> omega
      rw [e]
      exact k
/-! ### depth_of -/
abbrev s_depth_of : Stmt := top 25
theorem sc_depth_of : FnScope ["room", "below", "above"] ["room"] (defScope s_depth_of) := ⟨rfl, rfl, rfl, by decide +kernel, rfl, by decide +kernel, by decide +kernel⟩
def spDepthOf : Sp := fun vs H Q _ => ∃ (a : Addr) (r : HS.Room), vs = [.ref a] ∧ RmH H a r ∧ Q (oV (HS.depthOf r)) H
theorem ok_depth_of (T : Txt K mg) (F : FnP K "depth_of" s_depth_of [] [] f fd) : FnOk P w K mg base CX0 1 f fd ["room"] spDepthOf := by
  refine F.ok sc_depth_of (fun vs H Q E h => ?_) (fun cdv A outer s H vs Q E hr h => ⟨_, PSs.nox (pss_cons (ps_asg (pv 0) (pg_tup rfl (pgs_cons (pg_name (i := 1) sc_depth_of.nd rfl (Or.inl rfl)) (pgs_cons (pg_name (i := 2) sc_depth_of.nd rfl (Or.inl rfl)) pgs_nil)))) (pss_one (ps_ret (pe_ifExp (PW.pt (pw_or (pt_cmpR op_isN (pv 1) pe_non (nomark _)) (pw_or1 (pt_cmpR op_isN (pv 2) pe_non (nomark _))))) pe_non (pe_op op_add (pv 1) (pv 2)))))), ?_⟩)
  · obtain ⟨a, r, rfl, _⟩ := h
    rfl
  · obtain ⟨a, ⟨lo, hi⟩, rfl, ha, k⟩ := h
    refine ⟨_, rfl, a, _, rfl, SqT.of ha, rfl, _, _, rfl, _, _, rfl, rfl, ?_⟩
    cases lo with
    | none => exact ⟨_, rfl, rfl, true, rfl, k⟩
    | some l =>
      refine ⟨_, rfl, rfl, false, rfl, ?_⟩
      cases hi with
      | none => exact ⟨_, rfl, rfl, true, rfl, k⟩
      | some u => exact ⟨_, rfl, rfl, false, rfl, _, rfl, _, rfl, _, _, rfl, rfl, k⟩
end
end Hs
set_option maxHeartbeats 4000000
namespace Hs
open PySem L2 HSR
section
variable {P : Program} {w : World} {K : PySem.W.Frag} {mg : Str → Option Value} {base : Heap} {f : Addr} {fd : FuncData}
theorem few_put {g : Str} {v : V} {fs : List (Str × V)} {n : Nat} (h : fs.length ≤ n) : (putF g v fs).length ≤ n + 1 := Nat.le_trans (length_putF g v fs) (Nat.succ_le_succ h)
theorem few1 {n : Nat} (h : n ≤ 10) : n < 1000 := by omega
/-! ### Extents.__init__ -/
abbrev s_Extents___init__ : Stmt := inClass (top 27) 0
theorem sc_Extents___init__ : FnScope ["self", "x", "h", "room", "sign"] ["self", "x", "h", "room", "sign"] (defScope s_Extents___init__) := ⟨rfl, rfl, rfl, by decide +kernel, rfl, by decide +kernel, by decide +kernel⟩
def spXtInit (K : PySem.W.Frag) : Sp := fun vs H Q _ => ∃ (p dx r : Addr) (x h s : Int) (rm : HS.Room), vs = [.ref p, .int x, .int h, .ref r, .int s] ∧ H p = some (.ins (cX K) dx []) ∧ RmH H r rm ∧
  ∀ H', (∀ b o, H b = some o → b ≠ p → H' b = some o) → XtH K H' p (HS.mkXt x h rm s) → Q .non H'
theorem ok_xt_init (T : Txt K mg) (c_depth_of : Fn P w K mg base 1 "depth_of" [] ["room"] spDepthOf) (F : FnM K "__init__" "Extents.__init__" s_Extents___init__ [] f fd) : FnOk P w K mg base CX0 2 f fd ["self", "x", "h", "room", "sign"] (spXtInit K) := by
  refine F.ok sc_Extents___init__ (fun vs H Q E h => ?_) (fun cdv A outer s H vs Q E hr h => ⟨_, PSs.nox (pss_cons (ps_fld (pv 0) (pe_callB call_abs (by rfl) T.abs_ (by decide +kernel) (pa_cons (pv 1) pa_nil)) rfl) (pss_cons (ps_fld (pv 0) (pe_callB call_abs (by rfl) T.abs_ (by decide +kernel) (pa_cons (pv 2) pa_nil)) rfl) (pss_cons (ps_fld (pv 0) (pe_callF c_depth_of (hr.mono (by decide)) (pa_cons (pv 3) pa_nil)) rfl) (pss_one (ps_if (pt_cmpR op_eq (pe_cmpR op_ge (pv 4) pe_int (nomark _)) (pe_cmpR op_ge (pv 1) pe_int (nomark _)) (nomark _)) (pss_one (ps_asg (pe_tup (pa_cons (pe_callB (call_max2 rfl) (by rfl) T.max_ (by decide +kernel) (pa_cons (pv 2) (pa_cons pe_int pa_nil))) (pa_cons (pe_ix ix_tup (pv 3) pe_int (fun _ _ => rfl)) pa_nil))) (pg_tup rfl (pgs_cons (pg_fld (pv 0)) (pgs_cons (pg_fld (pv 0)) pgs_nil))))) (pss_one (ps_asg (pe_tup (pa_cons (pe_callB (call_max2 rfl) (by rfl) T.max_ (by decide +kernel) (pa_cons (pe_un un_neg (pv 2)) (pa_cons pe_int pa_nil))) (pa_cons (pe_ix ix_tup (pv 3) pe_int (fun _ _ => rfl)) pa_nil))) (pg_tup rfl (pgs_cons (pg_fld (pv 0)) (pgs_cons (pg_fld (pv 0)) pgs_nil)))))))))), ?_⟩)
  · obtain ⟨p, dx, r, x, h, s, rm, rfl, _⟩ := h
    rfl
  · obtain ⟨p, dx, r, x, h, s, rm, rfl, hp, hR, k⟩ := h
    have nrp : r ≠ p := ne_of hR hp (fun z => nomatch z)
    have ew : (if x < 0 then -x else x) = (x.natAbs : Int) := by split <;> omega
    have ec : (if h < 0 then -h else h) = (h.natAbs : Int) := by split <;> omega
    -- self.width
    refine ⟨_, rfl, x, rfl, _, rfl, p, cX K, dx, [], rfl, hp, T.clX, T.nWidth, by show 0 < 1000; decide, ?_⟩
    rw [ew]
    -- self.climb
    refine ⟨_, rfl, h, rfl, _, rfl, p, cX K, dx, _, rfl, upd_same, T.clX, T.nClimb, few1 (Nat.le_trans (few_put (n := 0) (Nat.le_refl _)) (by decide)), ?_⟩
    rw [ec]
    -- self.depth
    have hR' : ∀ o u, RmH (upd (upd H p o) p u) r rm := fun o u => by
      show (upd (upd H p o) p u) r = _
      rw [upd_ne nrp, upd_ne nrp]
      exact hR
    refine ⟨_, rfl, r, rm, rfl, hR' _ _, ?_⟩
    refine ⟨_, rfl, p, cX K, dx, _, rfl, upd_same, T.clX, T.nDepth, few1 (Nat.le_trans (few_put (few_put (n := 0) (Nat.le_refl _))) (by decide)), ?_⟩
    -- the test
    refine ⟨_, rfl, _, _, rfl, rfl, _, rfl, _, _, rfl, rfl, rfl, _, rfl, ?_⟩
    have dec : ∀ a b : Bool, decide (V.bl a = V.bl b) = decide (a = b) := fun a b => by cases a <;> cases b <;> rfl
    have fewL : ∀ (a b c d : V), (putF ("base" : Str) d (putF ("depth" : Str) c (putF ("climb" : Str) b (putF ("width" : Str) a [])))).length < 1000 := fun a b c d =>
      few1 (Nat.le_trans (few_put (few_put (few_put (few_put (n := 0) (Nat.le_refl _))))) (by decide))
    refine ite2 (fun c => ?_) (fun c => ?_)
    · rw [dec] at c
      have c' : decide (s ≥ 0) = decide (x ≥ 0) := of_decide_eq_true c
      refine ⟨_, rfl, _, _, rfl, _, rfl, r, _, _, _, rfl, rfl, SqT.of (show (upd _ p _) r = _ from by rw [upd_ne nrp]; exact hR' _ _), atI_nat (j := 1) rfl, by show 2 ≤ sizeLine; decide, fun t nt => ?_⟩
      have npt : p ≠ t := ne_of_none (H := upd (upd (upd H p _) p _) p _) upd_same nt
      refine ⟨t, _, rfl, SqT.of upd_same, rfl, _, _, rfl, _, rfl, p, cX K, dx, _, rfl, (by rw [upd_ne npt]; exact upd_same), T.clX, T.nBase, few1 (Nat.le_trans (few_put (few_put (few_put (n := 0) (Nat.le_refl _)))) (by decide)), ?_⟩
      refine ⟨_, _, rfl, _, rfl, p, cX K, dx, _, rfl, upd_same, T.clX, T.nLimit, fewL _ _ _ _, rfl, ?_⟩
      refine k _ (fun b o e hb => ?_) ⟨dx, ?_⟩
      · have nbt : b ≠ t := by
          refine ne_of_none (o := o) ?_ nt
          rw [upd_ne hb, upd_ne hb, upd_ne hb]
          exact e
        rw [upd_ne hb, upd_ne hb, upd_ne nbt, upd_ne hb, upd_ne hb, upd_ne hb]
        exact e
      · rw [upd_same]
        have em : (if 0 > h then 0 else h) = max h 0 := by split <;> omega
        rw [em]
        have eE : HS.mkXt x h rm s = ⟨x.natAbs, h.natAbs, HS.depthOf rm, max h 0, rm.2⟩ := by
          unfold HS.mkXt
          rw [if_pos c']
        rw [eE]
        rfl
    · rw [dec] at c
      have c' : ¬ decide (s ≥ 0) = decide (x ≥ 0) := fun z => c (decide_eq_true z)
      refine ⟨_, rfl, _, rfl, _, _, rfl, _, rfl, r, _, _, _, rfl, rfl, SqT.of (show (upd _ p _) r = _ from by rw [upd_ne nrp]; exact hR' _ _), atI_nat (j := 0) rfl, by show 2 ≤ sizeLine; decide, fun t nt => ?_⟩
      have npt : p ≠ t := ne_of_none (H := upd (upd (upd H p _) p _) p _) upd_same nt
      refine ⟨t, _, rfl, SqT.of upd_same, rfl, _, _, rfl, _, rfl, p, cX K, dx, _, rfl, (by rw [upd_ne npt]; exact upd_same), T.clX, T.nBase, few1 (Nat.le_trans (few_put (few_put (few_put (n := 0) (Nat.le_refl _)))) (by decide)), ?_⟩
      refine ⟨_, _, rfl, _, rfl, p, cX K, dx, _, rfl, upd_same, T.clX, T.nLimit, fewL _ _ _ _, rfl, ?_⟩
      refine k _ (fun b o e hb => ?_) ⟨dx, ?_⟩
      · have nbt : b ≠ t := by
          refine ne_of_none (o := o) ?_ nt
          rw [upd_ne hb, upd_ne hb, upd_ne hb]
          exact e
        rw [upd_ne hb, upd_ne hb, upd_ne nbt, upd_ne hb, upd_ne hb, upd_ne hb]
        exact e
      · rw [upd_same]
        have em : (if 0 > -h then 0 else -h) = max (-h) 0 := by split <;> omega
        rw [em]
        have eE : HS.mkXt x h rm s = ⟨x.natAbs, h.natAbs, HS.depthOf rm, max (-h) 0, rm.1⟩ := by
          unfold HS.mkXt
          rw [if_neg c']
        rw [eE]
        rfl
/-! ### Extents.extent -/
abbrev s_Extents_extent : Stmt := inClass (top 27) 1
theorem sc_Extents_extent : FnScope ["self", "pairs", "split", "span"] ["self", "pairs", "split"] (defScope s_Extents_extent) := ⟨rfl, rfl, rfl, by decide +kernel, rfl, by decide +kernel, by decide +kernel⟩
def Sm (i : Int) : Prop := -(2 ^ 64) < i ∧ i < 2 ^ 64
def spExtent (K : PySem.W.Frag) : Sp := fun vs H Q _ => ∃ (p : Addr) (E : HS.Xt) (j v : Int), vs = [.ref p, .int j, .int v] ∧ XtH K H p E ∧ Sm E.w ∧ Sm (j - v) ∧ Q (.int (E.extent j v)) H
theorem ok_extent (T : Txt K mg) (c_capped : Fn P w K mg base 1 "capped" [] ["number", "limit"] spCapped) (F : FnM K "extent" "Extents.extent" s_Extents_extent [] f fd) : FnOk P w K mg base CX0 2 f fd ["self", "pairs", "split"] (spExtent K) := by
  refine F.ok sc_Extents_extent (fun vs H Q E h => ?_) (fun cdv A outer s H vs Q E hr h => ⟨_, PSs.nox (pss_cons (ps_set (i := 3) sc_Extents_extent.nd rfl (Or.inl rfl) (pe_callF c_capped (hr.mono (by decide)) (pa_cons (pe_op op_add (pe_fld (pv 0) rfl) (pv 2)) (pa_cons (pe_fld (pv 0) rfl) pa_nil)))) (pss_one (ps_ret (pe_op op_add (pe_op op_mul (pe_fld (pv 0) rfl) (pe_callF c_capped (hr.mono (by decide)) (pa_cons (pe_op op_add (pe_fld (pv 0) rfl) (pv 2)) (pa_cons (pe_fld (pv 0) rfl) pa_nil)))) (pe_op op_mul (pe_op op_sub (pv 1) (pv 2)) (pv 3)))))), ?_⟩)
  · obtain ⟨p, E, j, v, rfl, _⟩ := h
    rfl
  · obtain ⟨p, E, j, v, rfl, ⟨dx, hp⟩, hw, hj, k⟩ := h
    refine ⟨_, rfl, p, _, dx, _, _, rfl, hp, T.clX, T.nClimb, xtF_climb, _, rfl, _, _, rfl, rfl, _, rfl, p, _, dx, _, _, rfl, hp, T.clX, T.nDepth, xtF_depth, _, E.depth, rfl, ?_⟩
    refine ⟨_, rfl, p, _, dx, _, _, rfl, hp, T.clX, T.nWidth, xtF_width, ?_⟩
    refine ⟨_, rfl, p, _, dx, _, _, rfl, hp, T.clX, T.nBase, xtF_base, _, rfl, _, _, rfl, rfl, _, rfl, p, _, dx, _, _, rfl, hp, T.clX, T.nLimit, xtF_limit, _, E.limit, rfl, ?_⟩
    refine ⟨_, _, rfl, rfl, .inl hw, ?_⟩
    refine ⟨_, rfl, _, rfl, _, _, rfl, rfl, _, rfl, _, _, rfl, rfl, .inl hj, _, _, rfl, rfl, ?_⟩
    exact k
/-! ### Extents.breakpoints -/
abbrev s_Extents_breakpoints : Stmt := inClass (top 27) 2
theorem sc_Extents_breakpoints : FnScope ["self", "pairs", "first"] ["self", "pairs"] (defScope s_Extents_breakpoints) := ⟨rfl, rfl, rfl, by decide +kernel, rfl, by decide +kernel, by decide +kernel⟩
def spBrk (K : PySem.W.Frag) : Sp := fun vs H Q _ => ∃ (p : Addr) (E : HS.Xt) (j : Int), vs = [.ref p, .int j] ∧ XtH K H p E ∧ ∀ H' t, Same H H' → H' t = some (.tup [.int (E.first j), .int (E.second j)]) → Q (.ref t) H'
theorem min_eq (i j : Int) : (if j < i then j else i) = min i j := by split <;> omega
theorem max_eq (i j : Int) : (if j > i then j else i) = max i j := by split <;> omega
theorem ok_breakpoints (T : Txt K mg) (F : FnM K "breakpoints" "Extents.breakpoints" s_Extents_breakpoints [] f fd) : FnOk P w K mg base CX0 1 f fd ["self", "pairs"] (spBrk K) := by
  refine F.ok sc_Extents_breakpoints (fun vs H Q E h => ?_) (fun cdv A outer s H vs Q E hr h => ⟨_, PSs.nox (pss_cons (ps_set (i := 2) sc_Extents_breakpoints.nd rfl (Or.inl rfl) (pe_ifExp (pt_cmpR op_isN (pe_fld (pv 0) rfl) pe_non (nomark _)) (pv 1) (pe_callB (call_min2 rfl) (by rfl) T.min_ (by decide +kernel) (pa_cons (pv 1) (pa_cons (pe_op op_sub (pe_fld (pv 0) rfl) (pe_fld (pv 0) rfl)) pa_nil))))) (pss_one (ps_ret (pe_tup (pa_cons (pv 2) (pa_cons (pe_ifExp (pt_cmpR op_isN (pe_fld (pv 0) rfl) pe_non (nomark _)) (pv 1) (pe_callB (call_min2 rfl) (by rfl) T.min_ (by decide +kernel) (pa_cons (pv 1) (pa_cons (pe_op op_sub (pe_fld (pv 0) rfl) (pe_fld (pv 0) rfl)) pa_nil)))) pa_nil)))))), ?_⟩)
  · obtain ⟨p, E, j, rfl, _⟩ := h
    rfl
  · obtain ⟨p, E, j, rfl, ⟨dx, hp⟩, k⟩ := h
    have second : ∀ (a : Int), a = E.first j → ∀ {D : Ends}, D.rt = Q → tRet (tTup (tCons (tVar 2) (tCons (tIf (tTest (tOp (fun x y H Q => y = V.non ∧ Q (.bl (decide (x = .non))) H) (tFld K (tVar 0) "depth") (tC .non))) (tVar 1)
        (tCB (fun xs H Q => ∃ i j, xs = [V.int i, V.int j] ∧ Q (V.int (if j < i then j else i)) H) (tCons (tVar 1) (tCons (tOp (rI0 fun i j => .int (i - j)) (tFld K (tVar 0) "depth") (tFld K (tVar 0) "climb")) tNil)))) tNil))) D [some (.ref p), some (.int j), some (.int a)] H := by
      intro a ea D eD
      refine ⟨_, rfl, _, rfl, p, _, dx, _, _, rfl, hp, T.clX, T.nDepth, xtF_depth, rfl, ?_⟩
      cases e : E.depth with
      | none =>
        refine ⟨true, rfl, _, rfl, by show 2 ≤ sizeLine; decide, fun t nt => ?_⟩
        rw [eD]
        refine k _ t (same_new nt) ?_
        rw [upd_same, ea]
        have es : E.second j = j := by unfold HS.Xt.second; rw [e]
        rw [es]
      | some g =>
        refine ⟨false, rfl, _, rfl, _, rfl, p, _, dx, _, _, rfl, hp, T.clX, T.nDepth, xtF_depth, _, rfl, p, _, dx, _, _, rfl, hp, T.clX, T.nClimb, xtF_climb, ?_⟩
        rw [e]
        refine ⟨_, _, rfl, rfl, _, _, rfl, by show 2 ≤ sizeLine; decide, fun t nt => ?_⟩
        rw [eD]
        refine k _ t (same_new nt) ?_
        rw [upd_same, ea, min_eq]
        have es : E.second j = min j (g - E.climb) := by unfold HS.Xt.second; rw [e]
        rw [es]
    refine ⟨_, rfl, p, _, dx, _, _, rfl, hp, T.clX, T.nLimit, xtF_limit, rfl, ?_⟩
    cases e : E.limit with
    | none =>
      refine ⟨true, rfl, _, rfl, ?_⟩
      exact second j (by unfold HS.Xt.first; rw [e]) rfl
    | some g =>
      refine ⟨false, rfl, _, rfl, _, rfl, p, _, dx, _, _, rfl, hp, T.clX, T.nLimit, xtF_limit, _, rfl, p, _, dx, _, _, rfl, hp, T.clX, T.nBase, xtF_base, ?_⟩
      rw [e]
      refine ⟨_, _, rfl, rfl, _, _, rfl, ?_⟩
      rw [min_eq]
      exact second _ (by unfold HS.Xt.first; rw [e]) rfl
/-! ### Extents.peaks -/
abbrev s_Extents_peaks : Stmt := inClass (top 27) 3
theorem sc_Extents_peaks : FnScope ["self", "pairs", "first", "second", "low_peak"] ["self", "pairs"] (defScope s_Extents_peaks) := ⟨rfl, rfl, rfl, by decide +kernel, rfl, by decide +kernel, by decide +kernel⟩
def spPeaks (K : PySem.W.Frag) : Sp := fun vs H Q _ => ∃ (p : Addr) (E : HS.Xt) (j : Int), vs = [.ref p, .int j] ∧ XtH K H p E ∧ ∀ H' t, Same H H' → H' t = some (.tup [.int (E.peak1 j), .int (E.peak2 j)]) → Q (.ref t) H'
theorem ok_peaks (T : Txt K mg) (m_Extents_breakpoints : Mh P w K mg base 1 "Extents" "breakpoints" ["self", "pairs"] (spBrk K)) (F : FnM K "peaks" "Extents.peaks" s_Extents_peaks [] f fd) : FnOk P w K mg base CX0 2 f fd ["self", "pairs"] (spPeaks K) := by
  refine F.ok sc_Extents_peaks (fun vs H Q E h => ?_) (fun cdv A outer s H vs Q E hr h => ⟨_, PSs.nox (pss_cons (ps_asg (pe_methF m_Extents_breakpoints (hr.mono (by decide)) (pv 0) (pa_cons (pv 1) pa_nil)) (pg_tup rfl (pgs_cons (pg_name (i := 2) sc_Extents_peaks.nd rfl (Or.inl rfl)) (pgs_cons (pg_name (i := 3) sc_Extents_peaks.nd rfl (Or.inl rfl)) pgs_nil)))) (pss_cons (ps_set (i := 4) sc_Extents_peaks.nd rfl (Or.inl rfl) (pe_callB (call_min2 rfl) (by rfl) T.min_ (by decide +kernel) (pa_cons (pe_callB (call_max2 rfl) (by rfl) T.max_ (by decide +kernel) (pa_cons (pe_op op_fdiv (pe_op op_sub (pe_op op_add (pe_fld (pv 0) rfl) (pv 1)) (pe_fld (pv 0) rfl)) pe_int) (pa_cons pe_int pa_nil))) (pa_cons (pv 2) pa_nil)))) (pss_one (ps_ret (pe_tup (pa_cons (pv 4) (pa_cons (pe_callB (call_min2 rfl) (by rfl) T.min_ (by decide +kernel) (pa_cons (pe_callB (call_max2 rfl) (by rfl) T.max_ (by decide +kernel) (pa_cons (pe_op op_fdiv (pe_op op_sub (pv 1) (pe_fld (pv 0) rfl)) pe_int) (pa_cons (pv 2) pa_nil))) (pa_cons (pv 3) pa_nil))) pa_nil))))))), ?_⟩)
  · obtain ⟨p, E, j, rfl, _⟩ := h
    rfl
  · obtain ⟨p, E, j, rfl, hX, k⟩ := h
    obtain ⟨dx, hp⟩ := id hX
    refine ⟨_, rfl, p, dx, _, rfl, hp, xtF_no (by decide +kernel) (by decide +kernel) (by decide +kernel) (by decide +kernel) (by decide +kernel), _, rfl, p, E, j, rfl, hX, fun H' t s1 ht => ?_⟩
    have hp' := s1 _ _ hp
    refine ⟨t, _, rfl, SqT.of ht, rfl, _, _, rfl, _, _, rfl, rfl, ?_⟩
    -- low_peak
    refine ⟨_, rfl, p, _, dx, _, _, rfl, hp', T.clX, T.nWidth, xtF_width, _, rfl, _, _, rfl, rfl, _, rfl, p, _, dx, _, _, rfl, hp', T.clX, T.nClimb, xtF_climb, _, _, rfl, rfl, _, _, rfl, rfl, ⟨by decide, by decide⟩, _, _, rfl, ?_⟩
    refine ⟨_, rfl, _, _, rfl, ?_⟩
    rw [max_eq, min_eq]
    refine ⟨_, rfl, _, rfl, _, rfl, p, _, dx, _, _, rfl, hp', T.clX, T.nClimb, xtF_climb, _, _, rfl, rfl, _, _, rfl, rfl, ⟨by decide, by decide⟩, _, rfl, _, _, rfl, ?_⟩
    refine ⟨_, rfl, _, _, rfl, by show 2 ≤ sizeLine; decide, fun u nu => ?_⟩
    rw [max_eq, min_eq]
    exact k _ u (s1.trans (same_new nu)) upd_same
/-! ### Extents.best_split -/
abbrev s_Extents_best_split : Stmt := inClass (top 27) 4
theorem sc_Extents_best_split : FnScope ["self", "pairs", "first", "second"] ["self", "pairs"] (defScope s_Extents_best_split) := ⟨rfl, rfl, rfl, by decide +kernel, rfl, by decide +kernel, by decide +kernel⟩
def spBest (K : PySem.W.Frag) : Sp := fun vs H Q _ => ∃ (p : Addr) (E : HS.Xt) (j : Int), vs = [.ref p, .int j] ∧ XtH K H p E ∧ E.Ok ∧ E.w < 2 ^ 64 ∧ (0 ≤ j ∧ j < 2 ^ 64) ∧ ∀ H', Same H H' → Q (.int (E.best j)) H'
theorem ok_best_split (T : Txt K mg) (m_Extents_peaks : Mh P w K mg base 2 "Extents" "peaks" ["self", "pairs"] (spPeaks K)) (m_Extents_extent : Mh P w K mg base 2 "Extents" "extent" ["self", "pairs", "split"] (spExtent K))
    (F : FnM K "best_split" "Extents.best_split" s_Extents_best_split [] f fd) : FnOk P w K mg base CX0 3 f fd ["self", "pairs"] (spBest K) := by
  refine F.ok sc_Extents_best_split (fun vs H Q E h => ?_) (fun cdv A outer s H vs Q E hr h => ⟨_, PSs.nox (pss_cons (ps_asg (pe_methF m_Extents_peaks (hr.mono (by decide)) (pv 0) (pa_cons (pv 1) pa_nil)) (pg_tup rfl (pgs_cons (pg_name (i := 2) sc_Extents_best_split.nd rfl (Or.inl rfl)) (pgs_cons (pg_name (i := 3) sc_Extents_best_split.nd rfl (Or.inl rfl)) pgs_nil)))) (pss_one (ps_ret (pe_ifExp (pt_cmpR op_ge (pe_methF m_Extents_extent (hr.mono (by decide)) (pv 0) (pa_cons (pv 1) (pa_cons (pv 2) pa_nil))) (pe_methF m_Extents_extent (hr.mono (by decide)) (pv 0) (pa_cons (pv 1) (pa_cons (pv 3) pa_nil))) (nomark _)) (pv 2) (pv 3))))), ?_⟩)
  · obtain ⟨p, E, j, rfl, _⟩ := h
    rfl
  · obtain ⟨p, E, j, rfl, hX, ok, hw, hj, k⟩ := h
    obtain ⟨dx, hp⟩ := id hX
    refine ⟨_, rfl, p, dx, _, rfl, hp, xtF_no (by decide +kernel) (by decide +kernel) (by decide +kernel) (by decide +kernel) (by decide +kernel), _, rfl, p, E, j, rfl, hX, fun H' t s1 ht => ?_⟩
    have hp' := s1 _ _ hp
    have r1 := HS.Xt.peak1_rg ok hj.1
    have r2 := HS.Xt.peak2_rg ok hj.1
    have r3 := HS.Xt.first_lo ok hj.1
    have r4 := HS.Xt.second_lo ok hj.1
    have w0 := ok.w0
    have hw' : Sm E.w := ⟨by omega, hw⟩
    refine ⟨t, _, rfl, SqT.of ht, rfl, _, _, rfl, _, _, rfl, rfl, ?_⟩
    refine ⟨_, rfl, p, dx, _, rfl, hp', xtF_no (by decide +kernel) (by decide +kernel) (by decide +kernel) (by decide +kernel) (by decide +kernel), _, rfl, _, rfl, p, E, _, _, rfl, ⟨dx, hp'⟩, hw', ⟨by omega, by omega⟩, ?_⟩
    refine ⟨_, rfl, p, dx, _, rfl, hp', xtF_no (by decide +kernel) (by decide +kernel) (by decide +kernel) (by decide +kernel) (by decide +kernel), _, rfl, _, rfl, p, E, _, _, rfl, ⟨dx, hp'⟩, hw', ⟨by omega, by omega⟩, ?_⟩
    refine ⟨_, _, rfl, rfl, _, rfl, ?_⟩
    have kk := k H' s1
    unfold HS.Xt.best at kk
    refine ite2 (fun c => ?_) (fun c => ?_)
    · rw [if_pos (of_decide_eq_true c)] at kk
      exact ⟨_, rfl, kk⟩
    · rw [if_neg (fun z => c (decide_eq_true z))] at kk
      exact ⟨_, rfl, kk⟩
/-! ### Extents.greatest -/
abbrev s_Extents_greatest : Stmt := inClass (top 27) 5
theorem sc_Extents_greatest : FnScope ["self", "pairs"] ["self", "pairs"] (defScope s_Extents_greatest) := ⟨rfl, rfl, rfl, by decide +kernel, rfl, by decide +kernel, by decide +kernel⟩
def spGreatest (K : PySem.W.Frag) : Sp := fun vs H Q _ => ∃ (p : Addr) (E : HS.Xt) (j : Int), vs = [.ref p, .int j] ∧ XtH K H p E ∧ E.Ok ∧ E.w < 2 ^ 64 ∧ (0 ≤ j ∧ j < 2 ^ 64) ∧ ∀ H', Same H H' → Q (.int (E.greatest j)) H'
theorem ok_greatest (T : Txt K mg) (m_Extents_best_split : Mh P w K mg base 3 "Extents" "best_split" ["self", "pairs"] (spBest K)) (m_Extents_extent : Mh P w K mg base 2 "Extents" "extent" ["self", "pairs", "split"] (spExtent K))
    (F : FnM K "greatest" "Extents.greatest" s_Extents_greatest [] f fd) : FnOk P w K mg base CX0 4 f fd ["self", "pairs"] (spGreatest K) := by
  refine F.ok sc_Extents_greatest (fun vs H Q E h => ?_) (fun cdv A outer s H vs Q E hr h => ⟨_, PSs.nox (pss_one (ps_ret (pe_methF m_Extents_extent (hr.mono (by decide)) (pv 0) (pa_cons (pv 1) (pa_cons (pe_methF m_Extents_best_split (hr.mono (by decide)) (pv 0) (pa_cons (pv 1) pa_nil)) pa_nil))))), ?_⟩)
  · obtain ⟨p, E, j, rfl, _⟩ := h
    rfl
  · obtain ⟨p, E, j, rfl, hX, ok, hw, hj, k⟩ := h
    obtain ⟨dx, hp⟩ := id hX
    have r := HS.Xt.best_rg ok hj.1
    have w0 := ok.w0
    refine ⟨_, rfl, p, dx, _, rfl, hp, xtF_no (by decide +kernel) (by decide +kernel) (by decide +kernel) (by decide +kernel) (by decide +kernel), _, rfl, ?_⟩
    refine ⟨_, rfl, p, dx, _, rfl, hp, xtF_no (by decide +kernel) (by decide +kernel) (by decide +kernel) (by decide +kernel) (by decide +kernel), _, rfl, p, E, j, rfl, hX, ok, hw, hj, fun H' s1 => ?_⟩
    exact ⟨p, E, j, _, rfl, hX.mono s1, ⟨by omega, hw⟩, ⟨by omega, by omega⟩, k H' s1⟩
end
end Hs
set_option maxHeartbeats 4000000
namespace Hs
open PySem L2 HSR
section
variable {P : Program} {w : World} {K : PySem.W.Frag} {mg : Str → Option Value} {base : Heap} {f : Addr} {fd : FuncData}
theorem xtF_m {E : HS.Xt} {m : Str} (h : (m == ("limit" : Str)) = false ∧ (m == ("base" : Str)) = false ∧ (m == ("depth" : Str)) = false ∧ (m == ("climb" : Str)) = false ∧ (m == ("width" : Str)) = false) : (xtF E).lookup m = none :=
  xtF_no (by simpa using h.1) (by simpa using h.2.1) (by simpa using h.2.2.1) (by simpa using h.2.2.2.1) (by simpa using h.2.2.2.2)
theorem xg {E : HS.Xt} : (xtF E).lookup ("greatest" : Str) = none := xtF_m (by decide +kernel)
theorem xf {E : HS.Xt} : (xtF E).lookup ("fewest_pairs" : Str) = none := xtF_m (by decide +kernel)
/-! ### Extents.fewest_pairs -/
abbrev s_Extents_fewest_pairs : Stmt := inClass (top 27) 6
theorem sc_Extents_fewest_pairs : FnScope ["self", "target", "enough", "too_few", "middle"] ["self", "target"] (defScope s_Extents_fewest_pairs) := ⟨rfl, rfl, rfl, by decide +kernel, rfl, by decide +kernel, by decide +kernel⟩
def spFewM (K : PySem.W.Frag) : Sp := fun vs H Q _ => ∃ (p : Addr) (E : HS.Xt) (t : Int), vs = [.ref p, .int t] ∧ XtH K H p E ∧ E.Ok ∧ E.w < 2 ^ 64 ∧ t < 2 ^ 60 ∧ ∀ r H', Same H H' → E.Few t r → Q (oV r) H'
theorem ok_fewM (T : Txt K mg) (m_Extents_greatest : Mh P w K mg base 4 "Extents" "greatest" ["self", "pairs"] (spGreatest K)) (F : FnM K "fewest_pairs" "Extents.fewest_pairs" s_Extents_fewest_pairs [] f fd) :
    FnOk P w K mg base CX0 5 f fd ["self", "target"] (spFewM K) := by
  refine F.ok sc_Extents_fewest_pairs (fun vs H Q E h => ?_) (fun cdv A outer s H vs Q E hr h => ⟨_, PSs.nox (pss_cons (ps_if (pt_cmpR op_ge (pe_methF m_Extents_greatest (hr.mono (by decide)) (pv 0) (pa_cons pe_int pa_nil)) (pv 1) (nomark _)) (pss_one (ps_ret pe_int)) pss_nil) (pss_cons (ps_if (pt_cmpR op_eq (pe_fld (pv 0) rfl) pe_int (nomark _)) (pss_one (ps_ret pe_non)) pss_nil) (pss_cons (ps_set (i := 2) sc_Extents_fewest_pairs.nd rfl (Or.inl rfl) pe_int) (pss_cons (ps_while PassesOwn.never (pt_cmpR op_lt (pe_methF m_Extents_greatest (hr.mono (by decide)) (pv 0) (pa_cons (pv 2) pa_nil)) (pv 1) (nomark _)) (pss_one (ps_aug (i := 2) sc_Extents_fewest_pairs.nd rfl (Or.inl rfl) pe_int ip_mulH))) (pss_cons (ps_set (i := 3) sc_Extents_fewest_pairs.nd rfl (Or.inl rfl) (pe_op op_fdiv (pv 2) pe_int)) (pss_cons (ps_while PassesOwn.never (pt_cmpR op_gt (pe_op op_sub (pv 2) (pv 3)) pe_int (nomark _)) (pss_cons (ps_set (i := 4) sc_Extents_fewest_pairs.nd rfl (Or.inl rfl) (pe_op op_fdiv (pe_op op_add (pv 2) (pv 3)) pe_int)) (pss_one (ps_if (pt_cmpR op_lt (pe_methF m_Extents_greatest (hr.mono (by decide)) (pv 0) (pa_cons (pv 4) pa_nil)) (pv 1) (nomark _)) (pss_one (ps_set (i := 3) sc_Extents_fewest_pairs.nd rfl (Or.inl rfl) (pv 4))) (pss_one (ps_set (i := 2) sc_Extents_fewest_pairs.nd rfl (Or.inl rfl) (pv 4))))))) (pss_one (ps_ret (pv 2))))))))), ?_⟩)
  · obtain ⟨p, E, t, rfl, _⟩ := h
    rfl
  · obtain ⟨p, E, t, rfl, hX, ok, hw, ht, k⟩ := h
    obtain ⟨dx, hp⟩ := id hX
    refine ⟨_, rfl, p, dx, _, rfl, hp, xg, p, E, 0, rfl, hX, ok, hw, ⟨by decide, by decide⟩, fun H1 s1 => ?_⟩
    refine ⟨_, rfl, _, _, rfl, rfl, _, rfl, ?_⟩
    refine ite2 (fun c => ?_) (fun c => ?_)
    · have c' : t ≤ E.greatest 0 := of_decide_eq_true c
      exact k (some 0) H1 s1 ⟨Int.le_refl 0, c', .inl rfl⟩
    have c0 : E.greatest 0 < t := by
      have : ¬ t ≤ E.greatest 0 := fun z => c (decide_eq_true z)
      omega
    have hp1 := s1 _ _ hp
    refine ⟨_, rfl, p, _, dx, _, _, rfl, hp1, T.clX, T.nDepth, xtF_depth, by cases E.depth <;> rfl, _, rfl, ?_⟩
    refine ite2 (fun d => ?_) (fun d => ?_)
    · have d' : E.depth = some 0 := by
        have z := of_decide_eq_true d
        cases e : E.depth with
        | none =>
          rw [e] at z
          cases z
        | some g =>
          rw [e] at z
          have : g = 0 := V.int.inj z
          rw [this]
      exact k none H1 s1 ⟨d', c0⟩
    have d' : E.depth ≠ some 0 := fun z => d (by rw [z]; rfl)
    -- enough = 1
    refine ⟨fun m σ H' => ∃ e : Int, σ = [some (.ref p), some (.int t), some (.int e), none, none] ∧ Same H H' ∧ 1 ≤ e ∧ e < 2 ^ 62 ∧ E.greatest (e / 2) < t ∧ m = (t + 2 - e).toNat, ⟨_, 1, rfl, s1, by decide, by decide, c0, rfl⟩, ?_⟩
    rintro m σ H2 ⟨e, rfl, s2, he, he2, hlt, rfl⟩
    refine ⟨_, rfl, p, dx, _, rfl, s2 _ _ hp, xg, _, rfl, p, E, e, rfl, hX.mono s2, ok, hw, ⟨by omega, by omega⟩, fun H3 s3 => ?_⟩
    refine ⟨_, rfl, _, _, rfl, rfl, _, rfl, ?_⟩
    refine ite2 (fun c => ?_) (fun c => ?_)
    · have c' : E.greatest e < t := of_decide_eq_true c
      have far := HS.Xt.greatest_far ok d' he
      refine ⟨fun σ' H' => σ' = [some (.ref p), some (.int t), some (.int (e * 2)), none, none] ∧ Same H H', ?_, ?_⟩
      · rintro σ' H' ⟨rfl, s4⟩
        refine ⟨_, ?_, e * 2, rfl, s4, by omega, by omega, ?_, rfl⟩
        · omega
        · have : e * 2 / 2 = e := by omega
          rw [this]
          exact c'
      · refine ⟨_, rfl, _, _, rfl, rfl, .inr ⟨by decide, by decide⟩, ?_⟩
        exact ⟨rfl, s2.trans s3⟩
    · have c' : t ≤ E.greatest e := by
        have : ¬ E.greatest e < t := fun z => c (decide_eq_true z)
        omega
      -- too_few = enough // 2
      refine ⟨_, rfl, _, _, rfl, rfl, ⟨by decide, by decide⟩, ?_⟩
      refine ⟨fun m σ H' => ∃ (e u : Int) (v : Option V), σ = [some (.ref p), some (.int t), some (.int e), some (.int u), v] ∧ Same H H' ∧ 0 ≤ u ∧ u < e ∧ e < 2 ^ 62 ∧ E.greatest u < t ∧ t ≤ E.greatest e ∧ m = (e - u).toNat,
        ⟨_, e, e / 2, none, rfl, s2.trans s3, by omega, by omega, he2, hlt, c', rfl⟩, ?_⟩
      rintro m σ H4 ⟨e, u, v, rfl, s4, hu, hue, he, hl, hg, rfl⟩
      refine ⟨_, rfl, _, rfl, _, _, rfl, rfl, _, _, rfl, rfl, _, rfl, ?_⟩
      refine ite2 (fun c => ?_) (fun c => ?_)
      · have c1 : 1 < e - u := of_decide_eq_true c
        refine ⟨fun σ' H' => ∃ (e' u' : Int) (v : Option V), σ' = [some (.ref p), some (.int t), some (.int e'), some (.int u'), v] ∧ Same H H' ∧ 0 ≤ u' ∧ u' < e' ∧ e' < 2 ^ 62 ∧ E.greatest u' < t ∧ t ≤ E.greatest e' ∧ e' - u' < e - u, ?_, ?_⟩
        · rintro σ' H' ⟨e', u', v', rfl, s5, q1, q2, q3, q4, q5, q6⟩
          exact ⟨_, by omega, e', u', v', rfl, s5, q1, q2, q3, q4, q5, rfl⟩
        refine ⟨_, rfl, _, rfl, _, _, rfl, rfl, _, _, rfl, rfl, ⟨by decide, by decide⟩, ?_⟩
        refine ⟨_, rfl, p, dx, _, rfl, s4 _ _ hp, xg, _, rfl, p, E, _, rfl, hX.mono s4, ok, hw, ⟨by omega, by omega⟩, fun H5 s5 => ?_⟩
        refine ⟨_, rfl, _, _, rfl, rfl, _, rfl, ?_⟩
        refine ite2 (fun c => ?_) (fun c => ?_)
        · have c' : E.greatest ((e + u) / 2) < t := of_decide_eq_true c
          exact ⟨_, rfl, e, (e + u) / 2, _, rfl, s4.trans s5, by omega, by omega, he, c', hg, by omega⟩
        · have c' : t ≤ E.greatest ((e + u) / 2) := by
            have : ¬ E.greatest ((e + u) / 2) < t := fun z => c (decide_eq_true z)
            omega
          exact ⟨_, rfl, (e + u) / 2, u, _, rfl, s4.trans s5, by omega, by omega, by omega, hl, c', by omega⟩
      · have c1 : ¬ 1 < e - u := fun z => c (decide_eq_true z)
        refine ⟨_, rfl, ?_⟩
        refine k (some e) H4 s4 ⟨by omega, hg, .inr ?_⟩
        have : e - 1 = u := by omega
        rw [this]
        exact hl
/-! ### extents_for -/
abbrev s_extents_for : Stmt := top 28
theorem sc_extents_for : FnScope ["displacement", "room"] ["displacement", "room"] (defScope s_extents_for) := ⟨rfl, rfl, rfl, by decide +kernel, rfl, by decide +kernel, by decide +kernel⟩
/-- a displacement at a -/
def spExtFor (K : PySem.W.Frag) : Sp := fun vs H Q _ => ∃ (a r : Addr) (x h s : Int) (rm : HS.Room), vs = [.ref a, .ref r] ∧ StH H a (x, h, s) ∧ RmH H r rm ∧ ∀ H' p, Same H H' → XtH K H' p (HS.mkXt x h rm s) → Q (.ref p) H'
theorem made_same {H H1 : Hp} {x dx C : Addr} (nx : H x = none) (nd : H dx = none) (k : ∀ b o, (upd (upd H dx (.own x)) x (.ins C dx [])) b = some o → b ≠ x → H1 b = some o) : Same H H1 := Same.made nx nd k
theorem made_at {H : Hp} {x dx C : Addr} {b : Addr} {o : HO} (nx : H x = none) (nd : H dx = none) (e : H b = some o) : (upd (upd H dx (.own x)) x (.ins C dx [])) b = some o := by
  rw [upd_ne (ne_of_none e nx), upd_ne (ne_of_none e nd)]
  exact e
theorem ok_extents_for (T : Txt K mg) (k_Extents : Mkr P w K mg base 2 "Extents" [] ["self", "x", "h", "room", "sign"] (spXtInit K)) (F : FnP K "extents_for" s_extents_for [] [] f fd) : FnOk P w K mg base CX0 4 f fd ["displacement", "room"] (spExtFor K) := by
  refine F.ok sc_extents_for (fun vs H Q E h => ?_) (fun cdv A outer s H vs Q E hr h => ⟨_, PSs.nox (pss_one (ps_ret (pe_makeF k_Extents (hr.mono (by decide)) (pa_cons (pe_ix ix_tup (pv 0) pe_int (fun _ _ => rfl)) (pa_cons (pe_ix ix_tup (pv 0) pe_int (fun _ _ => rfl)) (pa_cons (pv 1) (pa_cons (pe_ix ix_tup (pv 0) pe_int (fun _ _ => rfl)) pa_nil))))))), ?_⟩)
  · obtain ⟨a, r, x, h, s, rm, rfl, _⟩ := h
    rfl
  · obtain ⟨a, r, x, h, s, rm, rfl, ha, hR, k⟩ := h
    refine ⟨_, rfl, _, _, _, _, rfl, rfl, SqT.of ha, atI_nat (j := 0) rfl, ?_⟩
    refine ⟨_, rfl, _, _, _, _, rfl, rfl, SqT.of ha, atI_nat (j := 1) rfl, _, rfl, ?_⟩
    refine ⟨_, rfl, _, _, _, _, rfl, rfl, SqT.of ha, atI_nat (j := 2) rfl, fun p dx np nd ne => ?_⟩
    refine ⟨p, dx, r, x, h, s, rm, rfl, upd_same, made_at np nd hR, fun H' keep hX => ⟨rfl, ?_⟩⟩
    exact k H' p (made_same np nd keep) hX
/-! ### range_with_pairs -/
abbrev s_range_with_pairs : Stmt := top 29
theorem sc_range_with_pairs : FnScope ["x", "h", "pairs", "room"] ["x", "h", "pairs", "room"] (defScope s_range_with_pairs) := ⟨rfl, rfl, rfl, by decide +kernel, rfl, by decide +kernel, by decide +kernel⟩
def spRange : Sp := fun vs H Q _ => ∃ (r : Addr) (x h j : Int) (rm : HS.Room), vs = [.int x, .int h, .int j, .ref r] ∧ RmH H r rm ∧ (∀ s, (HS.mkXt x h rm s).Ok) ∧ x.natAbs < 2 ^ 64 ∧ (0 ≤ j ∧ j < 2 ^ 64) ∧
  ∀ H' p, Same H H' → H' p = some (.tup [.int (-(HS.mkXt x h rm (-1)).greatest j), .int ((HS.mkXt x h rm 1).greatest j)]) → Q (.ref p) H'
theorem xt_w {x h s : Int} {rm : HS.Room} : (HS.mkXt x h rm s).w = x.natAbs := by
  unfold HS.mkXt
  split <;> rfl
theorem ok_range (T : Txt K mg) (k_Extents : Mkr P w K mg base 2 "Extents" [] ["self", "x", "h", "room", "sign"] (spXtInit K)) (m_Extents_greatest : Mh P w K mg base 4 "Extents" "greatest" ["self", "pairs"] (spGreatest K))
    (F : FnP K "range_with_pairs" s_range_with_pairs [] [] f fd) : FnOk P w K mg base CX0 5 f fd ["x", "h", "pairs", "room"] spRange := by
  refine F.ok sc_range_with_pairs (fun vs H Q E h => ?_) (fun cdv A outer s H vs Q E hr h => ⟨_, PSs.nox (pss_one (ps_ret (pe_tup (pa_cons (pe_un un_neg (pe_methF m_Extents_greatest (hr.mono (by decide)) (pe_makeF k_Extents (hr.mono (by decide)) (pa_cons (pv 0) (pa_cons (pv 1) (pa_cons (pv 3) (pa_cons (pe_un un_neg pe_int) pa_nil))))) (pa_cons (pv 2) pa_nil))) (pa_cons (pe_methF m_Extents_greatest (hr.mono (by decide)) (pe_makeF k_Extents (hr.mono (by decide)) (pa_cons (pv 0) (pa_cons (pv 1) (pa_cons (pv 3) (pa_cons pe_int pa_nil))))) (pa_cons (pv 2) pa_nil)) pa_nil))))), ?_⟩)
  · obtain ⟨r, x, h, j, rm, rfl, _⟩ := h
    rfl
  · obtain ⟨r, x, h, j, rm, rfl, hR, ok, hx, hj, k⟩ := h
    refine ⟨_, rfl, _, rfl, _, rfl, _, rfl, fun p dx np nd ne => ?_⟩
    refine ⟨p, dx, r, x, h, -1, rm, rfl, upd_same, made_at np nd hR, fun H1 keep hX => ⟨rfl, ?_⟩⟩
    have s1 := made_same np nd keep
    obtain ⟨dx1, hp⟩ := id hX
    refine ⟨p, dx1, _, rfl, hp, xg, _, rfl, p, _, j, rfl, hX, ok _, by rw [xt_w]; omega, hj, fun H2 s2 => ?_⟩
    refine ⟨_, rfl, ?_⟩
    refine ⟨_, rfl, _, rfl, _, rfl, fun p2 dx2 np2 nd2 ne2 => ?_⟩
    refine ⟨p2, dx2, r, x, h, 1, rm, rfl, upd_same, made_at np2 nd2 ((hR.mono s1).mono s2), fun H3 keep3 hX3 => ⟨rfl, ?_⟩⟩
    have s3 := made_same np2 nd2 keep3
    obtain ⟨dx3, hp3⟩ := id hX3
    refine ⟨p2, dx3, _, rfl, hp3, xg, _, rfl, p2, _, j, rfl, hX3, ok _, by rw [xt_w]; omega, hj, fun H4 s4 => ?_⟩
    refine ⟨by show 2 ≤ sizeLine; decide, fun t nt => ?_⟩
    exact k _ t ((((s1.trans s2).trans s3).trans s4).trans (same_new nt)) upd_same
/-! ### fewest_pairs, fewest_steps -/
abbrev s_fewest_pairs : Stmt := top 31
theorem sc_fewest_pairs : FnScope ["displacement", "room"] ["displacement", "room"] (defScope s_fewest_pairs) := ⟨rfl, rfl, rfl, by decide +kernel, rfl, by decide +kernel, by decide +kernel⟩
def spFewP : Sp := fun vs H Q _ => ∃ (a r : Addr) (x h s : Int) (rm : HS.Room), vs = [.ref a, .ref r] ∧ StH H a (x, h, s) ∧ RmH H r rm ∧ (HS.mkXt x h rm s).Ok ∧ x.natAbs < 2 ^ 64 ∧ s.natAbs < 2 ^ 60 ∧
  ∀ o H', Same H H' → (HS.mkXt x h rm s).Few s.natAbs o → Q (oV o) H'
theorem ok_fewest_pairs (T : Txt K mg) (c_extents_for : Fn P w K mg base 4 "extents_for" [] ["displacement", "room"] (spExtFor K)) (m_Extents_fewest_pairs : Mh P w K mg base 5 "Extents" "fewest_pairs" ["self", "target"] (spFewM K))
    (F : FnP K "fewest_pairs" s_fewest_pairs [] [] f fd) : FnOk P w K mg base CX0 6 f fd ["displacement", "room"] spFewP := by
  refine F.ok sc_fewest_pairs (fun vs H Q E h => ?_) (fun cdv A outer s H vs Q E hr h => ⟨_, PSs.nox (pss_one (ps_ret (pe_methF m_Extents_fewest_pairs (hr.mono (by decide)) (pe_callF c_extents_for (hr.mono (by decide)) (pa_cons (pv 0) (pa_cons (pv 1) pa_nil))) (pa_cons (pe_callB call_abs (by rfl) T.abs_ (by decide +kernel) (pa_cons (pe_ix ix_tup (pv 0) pe_int (fun _ _ => rfl)) pa_nil)) pa_nil)))), ?_⟩)
  · obtain ⟨a, r, x, h, s, rm, rfl, _⟩ := h
    rfl
  · obtain ⟨a, r, x, h, s, rm, rfl, ha, hR, ok, hx, hs, k⟩ := h
    refine ⟨_, rfl, _, rfl, a, r, x, h, s, rm, rfl, ha, hR, fun H1 p s1 hX => ?_⟩
    obtain ⟨dx, hp⟩ := id hX
    refine ⟨p, dx, _, rfl, hp, xf, ?_⟩
    refine ⟨_, rfl, _, _, _, _, rfl, rfl, SqT.of (ha.mono s1), atI_nat (j := 2) rfl, s, rfl, ?_⟩
    have e : (if s < 0 then -s else s) = (s.natAbs : Int) := by split <;> omega
    rw [e]
    refine ⟨p, _, _, rfl, hX, ok, by rw [xt_w]; omega, by omega, fun o H2 s2 hF => ?_⟩
    exact k o H2 (s1.trans s2) hF
abbrev s_fewest_steps : Stmt := top 32
theorem sc_fewest_steps : FnScope ["displacement", "room", "pairs"] ["displacement", "room"] (defScope s_fewest_steps) := ⟨rfl, rfl, rfl, by decide +kernel, rfl, by decide +kernel, by decide +kernel⟩
def spFewS : Sp := fun vs H Q _ => ∃ (a r : Addr) (x h s : Int) (rm : HS.Room), vs = [.ref a, .ref r] ∧ StH H a (x, h, s) ∧ RmH H r rm ∧ (HS.mkXt x h rm s).Ok ∧ x.natAbs < 2 ^ 64 ∧ s.natAbs < 2 ^ 60 ∧
  ∀ o H', Same H H' → (HS.mkXt x h rm s).Few s.natAbs o → Q (oV (o.map fun j => (x.natAbs : Int) + h.natAbs + 2 * j)) H'
theorem ok_fewest_steps (T : Txt K mg) (c_fewest_pairs : Fn P w K mg base 6 "fewest_pairs" [] ["displacement", "room"] spFewP) (F : FnP K "fewest_steps" s_fewest_steps [] [] f fd) : FnOk P w K mg base CX0 7 f fd ["displacement", "room"] spFewS := by
  refine F.ok sc_fewest_steps (fun vs H Q E h => ?_) (fun cdv A outer s H vs Q E hr h => ⟨_, PSs.nox (pss_cons (ps_set (i := 2) sc_fewest_steps.nd rfl (Or.inl rfl) (pe_callF c_fewest_pairs (hr.mono (by decide)) (pa_cons (pv 0) (pa_cons (pv 1) pa_nil)))) (pss_one (ps_ret (pe_ifExp (pt_cmpR op_isN (pv 2) pe_non (nomark _)) pe_non (pe_op op_add (pe_op op_add (pe_callB call_abs (by rfl) T.abs_ (by decide +kernel) (pa_cons (pe_ix ix_tup (pv 0) pe_int (fun _ _ => rfl)) pa_nil)) (pe_callB call_abs (by rfl) T.abs_ (by decide +kernel) (pa_cons (pe_ix ix_tup (pv 0) pe_int (fun _ _ => rfl)) pa_nil))) (pe_op op_mul pe_int (pv 2))))))), ?_⟩)
  · obtain ⟨a, r, x, h, s, rm, rfl, _⟩ := h
    rfl
  · obtain ⟨a, r, x, h, s, rm, rfl, ha, hR, ok, hx, hs, k⟩ := h
    refine ⟨_, rfl, _, rfl, a, r, x, h, s, rm, rfl, ha, hR, ok, hx, hs, fun o H1 s1 hF => ?_⟩
    have kk := k o H1 s1 hF
    cases o with
    | none => exact ⟨_, rfl, rfl, true, rfl, kk⟩
    | some j =>
      have ex : (if x < 0 then -x else x) = (x.natAbs : Int) := by split <;> omega
      have eh : (if h < 0 then -h else h) = (h.natAbs : Int) := by split <;> omega
      refine ⟨_, rfl, rfl, false, rfl, ?_⟩
      refine ⟨_, rfl, _, _, _, _, rfl, rfl, SqT.of (ha.mono s1), atI_nat (j := 0) rfl, x, rfl, ?_⟩
      rw [ex]
      refine ⟨_, rfl, _, _, _, _, rfl, rfl, SqT.of (ha.mono s1), atI_nat (j := 1) rfl, h, rfl, ?_⟩
      rw [eh]
      refine ⟨_, _, rfl, rfl, _, rfl, _, _, rfl, rfl, .inl ⟨by decide, by decide⟩, _, _, rfl, rfl, ?_⟩
      exact kk
end
end Hs
set_option maxHeartbeats 4000000
namespace Hs
open PySem L2 HSR
section
variable {P : Program} {w : World} {K : PySem.W.Frag} {mg : Str → Option Value} {base : Heap} {f : Addr} {fd : FuncData}
/-- two states near enough for the numbers' sizes -/
def Near (q e : HS.St) : Prop := (HS.dX q e).natAbs < 2 ^ 60 ∧ (HS.dS q e).natAbs < 2 ^ 60
theorem Near.x {q e : HS.St} (n : Near q e) : -(2 ^ 64) < HS.dX q e ∧ HS.dX q e < 2 ^ 64 := by
  have := n.1
  omega
def dsp (q e : HS.St) : HS.St := (HS.dX q e, HS.dH q e, HS.dS q e)
theorem bi {lo hi : Option Int} : (bandF lo hi).lookup ("includes" : Str) = none := bandF_no (by decide +kernel) (by decide +kernel)
theorem br {lo hi : Option Int} : (bandF lo hi).lookup ("room" : Str) = none := bandF_no (by decide +kernel) (by decide +kernel)
/-! ### displacement_and_room -/
abbrev s_displacement_and_room : Stmt := top 33
theorem sc_displacement_and_room : FnScope ["start", "end", "band", "limits", "room"] ["start", "end", "band"] (defScope s_displacement_and_room) := ⟨rfl, rfl, rfl, by decide +kernel, rfl, by decide +kernel, by decide +kernel⟩
def spDispRoom (K : PySem.W.Frag) : Sp := fun vs H Q _ => ∃ (a b : Addr) (v : V) (q e : HS.St) (lo hi : Option Int), vs = [.ref a, .ref b, v] ∧ StH H a q ∧ StH H b e ∧ BandV K H v lo hi ∧ HS.ins lo hi q.2.1 = true ∧ HS.ins lo hi e.2.1 = true ∧ Near q e ∧
  ∀ H' t p r, Same H H' → StH H' p (dsp q e) → RmH H' r (HS.roomOf lo hi q.2.1) → H' t = some (.tup [.ref p, .ref r]) → Q (.ref t) H'
theorem ok_disp_room (T : Txt K mg) (c_check_state : Fn P w K mg base 3 "check_state" [] ["value"] spCheckState) (c_to_band : Fn P w K mg base 4 "to_band" [] ["value"] (spToBand K)) (m_Band_room : Mh P w K mg base 3 "Band" "room" ["self", "height"] (spRoom K))
    (c_check_height : Fn P w K mg base 2 "check_height" [] ["height", "band"] (spCheckHeight K)) (c_difference : Fn P w K mg base 1 "difference" [] ["start", "end"] spDiff)
    (F : FnP K "displacement_and_room" s_displacement_and_room [] [] f fd) : FnOk P w K mg base CX0 5 f fd ["start", "end", "band"] (spDispRoom K) := by
  refine F.ok sc_displacement_and_room (fun vs H Q E h => ?_) (fun cdv A outer s H vs Q E hr h => ⟨_, PSs.nox (pss_cons (ps_expr (pe_callF c_check_state (hr.mono (by decide)) (pa_cons (pv 0) pa_nil))) (pss_cons (ps_expr (pe_callF c_check_state (hr.mono (by decide)) (pa_cons (pv 1) pa_nil))) (pss_cons (ps_set (i := 3) sc_displacement_and_room.nd rfl (Or.inl rfl) (pe_callF c_to_band (hr.mono (by decide)) (pa_cons (pv 2) pa_nil))) (pss_cons (ps_set (i := 4) sc_displacement_and_room.nd rfl (Or.inl rfl) (pe_methF m_Band_room (hr.mono (by decide)) (pv 3) (pa_cons (pe_ix ix_tup (pv 0) pe_int (fun _ _ => rfl)) pa_nil))) (pss_cons (ps_expr (pe_callF c_check_height (hr.mono (by decide)) (pa_cons (pe_ix ix_tup (pv 1) pe_int (fun _ _ => rfl)) (pa_cons (pv 3) pa_nil)))) (pss_one (ps_ret (pe_tup (pa_cons (pe_callF c_difference (hr.mono (by decide)) (pa_cons (pv 0) (pa_cons (pv 1) pa_nil))) (pa_cons (pv 4) pa_nil)))))))))), ?_⟩)
  · obtain ⟨a, b, v, q, e, lo, hi, rfl, _⟩ := h
    rfl
  · obtain ⟨a, b, v, q, e, lo, hi, rfl, ha, hb, hv, i1, i2, nr, k⟩ := h
    refine ⟨_, rfl, a, q, rfl, ha, fun H1 s1 => ?_⟩
    refine ⟨_, rfl, b, e, rfl, hb.mono s1, fun H2 s2 => ?_⟩
    have s12 := s1.trans s2
    refine ⟨_, rfl, v, lo, hi, rfl, hv.mono s12, fun H3 l s3 hB => ?_⟩
    have s13 := s12.trans s3
    obtain ⟨dx, hb3⟩ := id hB
    refine ⟨_, rfl, l, dx, _, rfl, hb3, br, ?_⟩
    refine ⟨_, rfl, a, _, _, _, rfl, rfl, SqT.of (ha.mono s13), atI_nat (j := 1) rfl, l, lo, hi, q.2.1, rfl, hB, i1, fun H4 r s4 hR => ?_⟩
    have s14 := s13.trans s4
    refine ⟨_, rfl, b, _, _, _, rfl, rfl, SqT.of (hb.mono s14), atI_nat (j := 1) rfl, _, rfl, l, lo, hi, e.2.1, rfl, hB.mono s4, i2, ?_⟩
    refine ⟨_, rfl, _, rfl, a, b, q, e, rfl, ha.mono s14, hb.mono s14, nr.x, fun H5 p s5 hp => ?_⟩
    refine ⟨_, rfl, by show 2 ≤ sizeLine; decide, fun t nt => ?_⟩
    have s6 := same_new (o := .tup [.ref p, .ref r]) nt
    exact k _ t p r ((s14.trans s5).trans s6) (hp.mono s6) ((hR.mono s5).mono s6) upd_same
/-! ### distance_or_none -/
abbrev s_distance_or_none : Stmt := top 34
theorem sc_distance_or_none : FnScope ["start", "end", "limits"] ["start", "end", "limits"] (defScope s_distance_or_none) := ⟨rfl, rfl, rfl, by decide +kernel, rfl, by decide +kernel, by decide +kernel⟩
def spDistN (K : PySem.W.Frag) : Sp := fun vs H Q _ => ∃ (a b l : Addr) (q e : HS.St) (lo hi : Option Int), vs = [.ref a, .ref b, .ref l] ∧ StH H a q ∧ StH H b e ∧ BandH K H l lo hi ∧ HS.ins lo hi q.2.1 = true ∧ HS.ins lo hi e.2.1 = true ∧ Near q e ∧
  ∀ r H', Same H H' → HS.Dist lo hi q e r → Q (oV r) H'
theorem ok_dist_none (T : Txt K mg) (c_difference : Fn P w K mg base 1 "difference" [] ["start", "end"] spDiff) (m_Band_room : Mh P w K mg base 3 "Band" "room" ["self", "height"] (spRoom K)) (c_fewest_steps : Fn P w K mg base 7 "fewest_steps" [] ["displacement", "room"] spFewS)
    (F : FnP K "distance_or_none" s_distance_or_none [] [] f fd) : FnOk P w K mg base CX0 8 f fd ["start", "end", "limits"] (spDistN K) := by
  refine F.ok sc_distance_or_none (fun vs H Q E h => ?_) (fun cdv A outer s H vs Q E hr h => ⟨_, PSs.nox (pss_one (ps_ret (pe_callF c_fewest_steps (hr.mono (by decide)) (pa_cons (pe_callF c_difference (hr.mono (by decide)) (pa_cons (pv 0) (pa_cons (pv 1) pa_nil))) (pa_cons (pe_methF m_Band_room (hr.mono (by decide)) (pv 2) (pa_cons (pe_ix ix_tup (pv 0) pe_int (fun _ _ => rfl)) pa_nil)) pa_nil))))), ?_⟩)
  · obtain ⟨a, b, l, q, e, lo, hi, rfl, _⟩ := h
    rfl
  · obtain ⟨a, b, l, q, e, lo, hi, rfl, ha, hb, hB, i1, i2, nr, k⟩ := h
    refine ⟨_, rfl, _, rfl, a, b, q, e, rfl, ha, hb, nr.x, fun H1 p s1 hp => ?_⟩
    obtain ⟨dx, hb1⟩ := hB.mono s1
    refine ⟨_, rfl, l, dx, _, rfl, hb1, br, ?_⟩
    refine ⟨_, rfl, a, _, _, _, rfl, rfl, SqT.of (ha.mono s1), atI_nat (j := 1) rfl, l, lo, hi, q.2.1, rfl, ⟨dx, hb1⟩, i1, fun H2 r s2 hR => ?_⟩
    have ok := HS.exOf_ok (s := HS.dS q e) i1 i2
    refine ⟨p, r, _, _, _, _, rfl, hp.mono s2, hR, ok, Nat.lt_trans nr.1 (by decide), nr.2, fun o H3 s3 hF => ?_⟩
    exact k _ H3 ((s1.trans s2).trans s3) (HS.dist_of_few i1 i2 hF)
/-! ### distance -/
abbrev s_distance : Stmt := top 35
theorem sc_distance : FnScope ["start", "end", "band", "displacement", "room", "length"] ["start", "end", "band"] (defScope s_distance) := ⟨rfl, rfl, rfl, by decide +kernel, rfl, by decide +kernel, by decide +kernel⟩
def spDist (K : PySem.W.Frag) : Sp := fun vs H Q _ => ∃ (a b : Addr) (v : V) (q e : HS.St) (lo hi : Option Int) (n : Nat), vs = [.ref a, .ref b, v] ∧ StH H a q ∧ StH H b e ∧ BandV K H v lo hi ∧ HS.ins lo hi q.2.1 = true ∧ Near q e ∧ HS.Pth lo hi n q e ∧
  ∀ (d : Nat) H', Same H H' → HS.DistN lo hi d q e → Q (.int d) H'
theorem ok_distance (T : Txt K mg) (c_displacement_and_room : Fn P w K mg base 5 "displacement_and_room" [] ["start", "end", "band"] (spDispRoom K)) (c_fewest_steps : Fn P w K mg base 7 "fewest_steps" [] ["displacement", "room"] spFewS)
    (F : FnP K "distance" s_distance [] [("band", .non)] f fd) : FnOk P w K mg base CX0 8 f fd ["start", "end", "band"] (spDist K) := by
  refine F.ok sc_distance (fun vs H Q E h => ?_) (fun cdv A outer s H vs Q E hr h => ⟨_, PSs.nox (pss_cons (ps_asg (pe_callF c_displacement_and_room (hr.mono (by decide)) (pa_cons (pv 0) (pa_cons (pv 1) (pa_cons (pv 2) pa_nil)))) (pg_tup rfl (pgs_cons (pg_name (i := 3) sc_distance.nd rfl (Or.inl rfl)) (pgs_cons (pg_name (i := 4) sc_distance.nd rfl (Or.inl rfl)) pgs_nil)))) (pss_cons (ps_set (i := 5) sc_distance.nd rfl (Or.inl rfl) (pe_callF c_fewest_steps (hr.mono (by decide)) (pa_cons (pv 3) (pa_cons (pv 4) pa_nil)))) (pss_cons (ps_if (pt_cmpR op_isN (pv 5) pe_non (nomark _)) (pss_one ps_never) pss_nil) (pss_one (ps_ret (pv 5)))))), ?_⟩)
  · obtain ⟨a, b, v, q, e, lo, hi, n, rfl, _⟩ := h
    rfl
  · obtain ⟨a, b, v, q, e, lo, hi, n, rfl, ha, hb, hv, i1, nr, pth, k⟩ := h
    have i2 := pth.ends i1
    refine ⟨_, rfl, _, rfl, _, rfl, a, b, v, q, e, lo, hi, rfl, ha, hb, hv, i1, i2, nr, fun H1 t p r s1 hp hR ht => ?_⟩
    refine ⟨t, _, rfl, SqT.of ht, rfl, _, _, rfl, _, _, rfl, rfl, ?_⟩
    have ok := HS.exOf_ok (s := HS.dS q e) i1 i2
    refine ⟨_, rfl, _, rfl, p, r, _, _, _, _, rfl, hp, hR, ok, Nat.lt_trans nr.1 (by decide), nr.2, fun o H2 s2 hF => ?_⟩
    obtain ⟨d, hd, _, hpth⟩ := (HS.dist_of_few i1 i2 hF).some_of pth
    have hD := HS.dist_of_few i1 i2 hF
    rw [hd] at hD
    have hd' : (o.map fun j => ((HS.dX q e).natAbs : Int) + (HS.dH q e).natAbs + 2 * j) = some (d : Int) := hd
    rw [hd']
    refine ⟨_, rfl, rfl, false, rfl, ?_⟩
    exact ⟨_, rfl, k d H2 (s1.trans s2) hD⟩
/-! ### pairs_for -/
abbrev s_pairs_for : Stmt := top 37
theorem sc_pairs_for : FnScope ["x", "h", "length", "left"] ["x", "h", "length"] (defScope s_pairs_for) := ⟨rfl, rfl, rfl, by decide +kernel, rfl, by decide +kernel, by decide +kernel⟩
def pairsFor (x h n : Int) : Option Int := if 0 ≤ n - x.natAbs - h.natAbs ∧ (n - x.natAbs - h.natAbs) % 2 = 0 then some ((n - x.natAbs - h.natAbs) / 2) else none
def spPairsFor : Sp := fun vs H Q _ => ∃ (x h n : Int), vs = [.int x, .int h, .int n] ∧ Q (oV (pairsFor x h n)) H
theorem ok_pairs_for (T : Txt K mg) (F : FnP K "pairs_for" s_pairs_for [] [] f fd) : FnOk P w K mg base CX0 1 f fd ["x", "h", "length"] spPairsFor := by
  refine F.ok sc_pairs_for (fun vs H Q E h => ?_) (fun cdv A outer s H vs Q E hr h => ⟨_, PSs.nox (pss_cons (ps_set (i := 3) sc_pairs_for.nd rfl (Or.inl rfl) (pe_op op_sub (pe_op op_sub (pv 2) (pe_callB call_abs (by rfl) T.abs_ (by decide +kernel) (pa_cons (pv 0) pa_nil))) (pe_callB call_abs (by rfl) T.abs_ (by decide +kernel) (pa_cons (pv 1) pa_nil)))) (pss_one (ps_ret (pe_ifExp (PW.pt (pw_and (pt_cmpR op_ge (pv 3) pe_int (nomark _)) (pw_and1 (pt_cmpR op_eq (pe_op op_mod (pv 3) pe_int) pe_int (nomark _))))) (pe_op op_fdiv (pv 3) pe_int) pe_non)))), ?_⟩)
  · obtain ⟨x, h, n, rfl, _⟩ := h
    rfl
  · obtain ⟨x, h, n, rfl, k⟩ := h
    have ex : (if x < 0 then -x else x) = (x.natAbs : Int) := by split <;> omega
    have eh : (if h < 0 then -h else h) = (h.natAbs : Int) := by split <;> omega
    refine ⟨_, rfl, _, rfl, x, rfl, ?_⟩
    rw [ex]
    refine ⟨_, _, rfl, rfl, _, rfl, h, rfl, ?_⟩
    rw [eh]
    refine ⟨_, _, rfl, rfl, ?_⟩
    unfold pairsFor at k
    refine ⟨_, rfl, _, _, rfl, rfl, _, rfl, ?_⟩
    refine ite2 (fun c => ?_) (fun c => ?_)
    · have c1 : 0 ≤ n - x.natAbs - h.natAbs := of_decide_eq_true c
      refine ⟨_, rfl, _, _, rfl, rfl, by show (0 : Int) < 2; decide, rfl, _, rfl, ?_⟩
      refine ite2 (fun d => ?_) (fun d => ?_)
      · have d1 : (n - x.natAbs - h.natAbs) % 2 = 0 := V.int.inj (of_decide_eq_true d)
        rw [if_pos ⟨c1, d1⟩] at k
        exact ⟨_, rfl, _, _, rfl, rfl, ⟨by decide, by decide⟩, k⟩
      · rw [if_neg (fun z => d (decide_eq_true (congrArg V.int z.2)))] at k
        exact k
    · rw [if_neg (fun z => c (decide_eq_true z.1))] at k
      exact k
/-! ### sums_within -/
abbrev s_sums_within : Stmt := top 38
theorem sc_sums_within : FnScope ["start", "x", "h", "length", "limits", "width", "rise", "pairs", "least", "greatest", "base"] ["start", "x", "h", "length", "limits"] (defScope s_sums_within) := ⟨rfl, rfl, rfl, by decide +kernel, rfl, by decide +kernel, by decide +kernel⟩
def spWithin (K : PySem.W.Frag) : Sp := fun vs H Q _ => ∃ (a l : Addr) (q e : HS.St) (lo hi : Option Int) (n : Int), vs = [.ref a, .int e.1, .int e.2.1, .int n, .ref l] ∧ StH H a q ∧ BandH K H l lo hi ∧ HS.ins lo hi q.2.1 = true ∧ HS.ins lo hi e.2.1 = true ∧ Near q e ∧ n < 2 ^ 60 ∧
  (pairsFor (HS.dX q e) (HS.dH q e) n = none → ∀ H', Same H H' → Q .non H') ∧
  ∀ j, pairsFor (HS.dX q e) (HS.dH q e) n = some j → ∀ H' t, Same H H' → H' t = some (.tup [.int (q.2.2 + q.2.1 * HS.dX q e + -(HS.exOf lo hi q e (-1)).greatest j), .int (q.2.2 + q.2.1 * HS.dX q e + (HS.exOf lo hi q e 1).greatest j)]) → Q (.ref t) H'
theorem pairsFor_rg {x h n j : Int} (e : pairsFor x h n = some j) : 0 ≤ j ∧ n = x.natAbs + h.natAbs + 2 * j := by
  unfold pairsFor at e
  split at e
  · rename_i c
    have := Option.some.inj e
    omega
  · cases e
theorem ok_within (T : Txt K mg) (c_pairs_for : Fn P w K mg base 1 "pairs_for" [] ["x", "h", "length"] spPairsFor) (m_Band_includes : Mh P w K mg base 1 "Band" "includes" ["self", "height"] (spIncludes K)) (m_Band_room : Mh P w K mg base 3 "Band" "room" ["self", "height"] (spRoom K))
    (c_range_with_pairs : Fn P w K mg base 5 "range_with_pairs" [] ["x", "h", "pairs", "room"] spRange) (F : FnP K "sums_within" s_sums_within [] [] f fd) : FnOk P w K mg base CX0 6 f fd ["start", "x", "h", "length", "limits"] (spWithin K) := by
  refine F.ok sc_sums_within (fun vs H Q E h => ?_) (fun cdv A outer s H vs Q E hr h => ⟨_, PSs.nox (pss_cons (ps_par (i := 5) (j := 6) (by rfl) sc_sums_within.nd rfl rfl (by decide) rfl rfl (pa_cons (pe_op op_sub (pv 1) (pe_ix ix_tup (pv 0) pe_int (fun _ _ => rfl))) (pa_cons (pe_op op_sub (pv 2) (pe_ix ix_tup (pv 0) pe_int (fun _ _ => rfl))) pa_nil)) (by rfl)) (pss_cons (ps_set (i := 7) sc_sums_within.nd rfl (Or.inl rfl) (pe_callF c_pairs_for (hr.mono (by decide)) (pa_cons (pv 5) (pa_cons (pv 6) (pa_cons (pv 3) pa_nil))))) (pss_cons (ps_if (PW.pt (pw_or (pt_cmpR op_isN (pv 7) pe_non (nomark _)) (pw_or1 (pt_not (pt_val (pe_methF m_Band_includes (hr.mono (by decide)) (pv 4) (pa_cons (pv 2) pa_nil))))))) (pss_one (ps_ret pe_non)) pss_nil) (pss_cons (ps_asg (pe_callF c_range_with_pairs (hr.mono (by decide)) (pa_cons (pv 5) (pa_cons (pv 6) (pa_cons (pv 7) (pa_cons (pe_methF m_Band_room (hr.mono (by decide)) (pv 4) (pa_cons (pe_ix ix_tup (pv 0) pe_int (fun _ _ => rfl)) pa_nil)) pa_nil))))) (pg_tup rfl (pgs_cons (pg_name (i := 8) sc_sums_within.nd rfl (Or.inl rfl)) (pgs_cons (pg_name (i := 9) sc_sums_within.nd rfl (Or.inl rfl)) pgs_nil)))) (pss_cons (ps_set (i := 10) sc_sums_within.nd rfl (Or.inl rfl) (pe_op op_add (pe_ix ix_tup (pv 0) pe_int (fun _ _ => rfl)) (pe_op op_mul (pe_ix ix_tup (pv 0) pe_int (fun _ _ => rfl)) (pv 5)))) (pss_one (ps_ret (pe_tup (pa_cons (pe_op op_add (pv 10) (pv 8)) (pa_cons (pe_op op_add (pv 10) (pv 9)) pa_nil)))))))))), ?_⟩)
  · obtain ⟨a, l, q, e, lo, hi, n, rfl, _⟩ := h
    rfl
  · obtain ⟨a, l, q, e, lo, hi, n, rfl, ha, hB, i1, i2, nr, hn, k1, k2⟩ := h
    obtain ⟨dx, hb⟩ := id hB
    refine ⟨_, rfl, _, rfl, _, _, _, _, rfl, rfl, SqT.of ha, atI_nat (j := 0) rfl, _, _, rfl, rfl, ?_⟩
    refine ⟨_, rfl, _, rfl, _, _, _, _, rfl, rfl, SqT.of ha, atI_nat (j := 1) rfl, _, _, rfl, rfl, ?_⟩
    refine ⟨_, _, rfl, ?_⟩
    refine ⟨_, rfl, _, rfl, _, rfl, HS.dX q e, HS.dH q e, n, rfl, ?_⟩
    cases hp : pairsFor (HS.dX q e) (HS.dH q e) n with
    | none =>
      refine ⟨_, rfl, rfl, true, rfl, ?_⟩
      exact k1 hp H (Same.refl H)
    | some j =>
      obtain ⟨hj, hnj⟩ := pairsFor_rg hp
      refine ⟨_, rfl, rfl, false, rfl, ?_⟩
      refine ⟨_, rfl, l, dx, _, rfl, hb, bi, _, rfl, l, lo, hi, e.2.1, rfl, hB, ?_⟩
      rw [i2]
      refine ⟨true, rfl, ?_⟩
      refine ⟨_, rfl, _, rfl, _, rfl, _, rfl, l, dx, _, rfl, hb, br, ?_⟩
      refine ⟨_, rfl, _, _, _, _, rfl, rfl, SqT.of ha, atI_nat (j := 1) rfl, l, lo, hi, q.2.1, rfl, hB, i1, fun H1 r s1 hR => ?_⟩
      refine ⟨r, HS.dX q e, HS.dH q e, j, _, rfl, hR, fun s => HS.exOf_ok i1 i2, Nat.lt_trans nr.1 (by decide), ⟨hj, by omega⟩, fun H2 t s2 ht => ?_⟩
      refine ⟨t, _, rfl, SqT.of ht, rfl, _, _, rfl, _, _, rfl, rfl, ?_⟩
      have ha2 := (ha.mono s1).mono s2
      refine ⟨_, rfl, _, _, _, _, rfl, rfl, SqT.of ha2, atI_nat (j := 2) rfl, _, rfl, _, _, _, _, rfl, rfl, SqT.of ha2, atI_nat (j := 1) rfl, _, rfl, _, _, rfl, rfl, .inr nr.x, _, _, rfl, rfl, ?_⟩
      refine ⟨_, rfl, _, rfl, _, _, rfl, rfl, _, rfl, _, rfl, _, _, rfl, rfl, by show 2 ≤ sizeLine; decide, fun u nu => ?_⟩
      exact k2 j hp _ u ((s1.trans s2).trans (same_new nu)) upd_same
/-! ### sums_after -/
abbrev s_sums_after : Stmt := top 39
theorem sc_sums_after : FnScope ["start", "x", "h", "length", "band", "limits"] ["start", "x", "h", "length", "band"] (defScope s_sums_after) := ⟨rfl, rfl, rfl, by decide +kernel, rfl, by decide +kernel, by decide +kernel⟩
def spSumsAfter (K : PySem.W.Frag) : Sp := fun vs H Q _ => ∃ (a : Addr) (v : V) (q e : HS.St) (lo hi : Option Int) (n : Int), vs = [.ref a, .int e.1, .int e.2.1, .int n, v] ∧ StH H a q ∧ BandV K H v lo hi ∧ HS.ins lo hi q.2.1 = true ∧ HS.ins lo hi e.2.1 = true ∧ Near q e ∧ 0 ≤ n ∧ n < 2 ^ 60 ∧
  (pairsFor (HS.dX q e) (HS.dH q e) n = none → ∀ H', Same H H' → Q .non H') ∧
  ∀ j, pairsFor (HS.dX q e) (HS.dH q e) n = some j → ∀ H' t, Same H H' → H' t = some (.tup [.int (q.2.2 + q.2.1 * HS.dX q e + -(HS.exOf lo hi q e (-1)).greatest j), .int (q.2.2 + q.2.1 * HS.dX q e + (HS.exOf lo hi q e 1).greatest j)]) → Q (.ref t) H'
theorem ok_sums_after (T : Txt K mg) (c_check_state : Fn P w K mg base 3 "check_state" [] ["value"] spCheckState) (c_check_integer1 : Fn P w K mg base 2 "check_integer" [.non] ["value", "least"] spCheckInt) (c_check_integer2 : Fn P w K mg base 2 "check_integer" [] ["value", "least"] spCheckInt)
    (c_to_band : Fn P w K mg base 4 "to_band" [] ["value"] (spToBand K)) (c_check_height : Fn P w K mg base 2 "check_height" [] ["height", "band"] (spCheckHeight K)) (c_sums_within : Fn P w K mg base 6 "sums_within" [] ["start", "x", "h", "length", "limits"] (spWithin K))
    (F : FnP K "sums_after" s_sums_after [] [("band", .non)] f fd) : FnOk P w K mg base CX0 7 f fd ["start", "x", "h", "length", "band"] (spSumsAfter K) := by
  refine F.ok sc_sums_after (fun vs H Q E h => ?_) (fun cdv A outer s H vs Q E hr h => ⟨_, PSs.nox (pss_cons (ps_expr (pe_callF c_check_state (hr.mono (by decide)) (pa_cons (pv 0) pa_nil))) (pss_cons (ps_expr (pe_callF c_check_integer1 (hr.mono (by decide)) (pa_cons (pv 1) pa_nil))) (pss_cons (ps_expr (pe_callF c_check_integer1 (hr.mono (by decide)) (pa_cons (pv 2) pa_nil))) (pss_cons (ps_expr (pe_callF c_check_integer2 (hr.mono (by decide)) (pa_cons (pv 3) (pa_cons pe_int pa_nil)))) (pss_cons (ps_set (i := 5) sc_sums_after.nd rfl (Or.inl rfl) (pe_callF c_to_band (hr.mono (by decide)) (pa_cons (pv 4) pa_nil))) (pss_cons (ps_expr (pe_callF c_check_height (hr.mono (by decide)) (pa_cons (pe_ix ix_tup (pv 0) pe_int (fun _ _ => rfl)) (pa_cons (pv 5) pa_nil)))) (pss_one (ps_ret (pe_callF c_sums_within (hr.mono (by decide)) (pa_cons (pv 0) (pa_cons (pv 1) (pa_cons (pv 2) (pa_cons (pv 3) (pa_cons (pv 5) pa_nil)))))))))))))), ?_⟩)
  · obtain ⟨a, v, q, e, lo, hi, n, rfl, _⟩ := h
    rfl
  · obtain ⟨a, v, q, e, lo, hi, n, rfl, ha, hv, i1, i2, nr, h0, hn, k1, k2⟩ := h
    refine ⟨_, rfl, a, q, rfl, ha, fun H1 s1 => ?_⟩
    refine ⟨_, rfl, _, .inl rfl, ?_⟩
    refine ⟨_, rfl, _, .inl rfl, ?_⟩
    refine ⟨_, rfl, n, .inr ⟨0, h0, rfl⟩, ?_⟩
    refine ⟨_, rfl, v, lo, hi, rfl, hv.mono s1, fun H2 l s2 hB => ?_⟩
    have s12 := s1.trans s2
    refine ⟨_, rfl, _, _, _, _, rfl, rfl, SqT.of (ha.mono s12), atI_nat (j := 1) rfl, _, rfl, l, lo, hi, q.2.1, rfl, hB, i1, ?_⟩
    refine ⟨_, rfl, _, rfl, _, rfl, _, rfl, _, rfl, a, l, q, e, lo, hi, n, rfl, ha.mono s12, hB, i1, i2, nr, hn, fun z H' s' => k1 z H' (s12.trans s'), fun j z H' t s' ht => k2 j z H' t (s12.trans s') ht⟩
/-! ### is_reachable -/
abbrev s_is_reachable : Stmt := top 40
theorem sc_is_reachable : FnScope ["start", "end", "length", "band", "sums"] ["start", "end", "length", "band"] (defScope s_is_reachable) := ⟨rfl, rfl, rfl, by decide +kernel, rfl, by decide +kernel, by decide +kernel⟩
def spReach (K : PySem.W.Frag) : Sp := fun vs H Q _ => ∃ (a b : Addr) (v : V) (q e : HS.St) (lo hi : Option Int) (n : Nat), vs = [.ref a, .ref b, .int n, v] ∧ StH H a q ∧ StH H b e ∧ BandV K H v lo hi ∧ HS.ins lo hi q.2.1 = true ∧ HS.ins lo hi e.2.1 = true ∧ Near q e ∧ n < 2 ^ 60 ∧
  ∀ (c : Bool) H', Same H H' → (c = true ↔ HS.Pth lo hi n q e) → Q (.bl c) H'
theorem ok_reach (T : Txt K mg) (c_check_state : Fn P w K mg base 3 "check_state" [] ["value"] spCheckState) (ck_sums_after : KFn P w K mg base 7 4 "sums_after" ["start", "x", "h", "length", "band"] (spSumsAfter K))
    (F : FnP K "is_reachable" s_is_reachable [] [("band", .non)] f fd) : FnOk P w K mg base CX0 8 f fd ["start", "end", "length", "band"] (spReach K) := by
  refine F.ok sc_is_reachable (fun vs H Q E h => ?_) (fun cdv A outer s H vs Q E hr h => ⟨_, PSs.nox (pss_cons (ps_expr (pe_callF c_check_state (hr.mono (by decide)) (pa_cons (pv 0) pa_nil))) (pss_cons (ps_expr (pe_callF c_check_state (hr.mono (by decide)) (pa_cons (pv 1) pa_nil))) (pss_cons (ps_set (i := 4) sc_is_reachable.nd rfl (Or.inl rfl) (pe_callKF ck_sums_after (hr.mono (by decide)) (pa_cons (pv 0) (pa_cons (pe_ix ix_tup (pv 1) pe_int (fun _ _ => rfl)) (pa_cons (pe_ix ix_tup (pv 1) pe_int (fun _ _ => rfl)) (pa_cons (pv 2) pa_nil)))) (pk_cons (pv 3) pk_nil))) (pss_one (ps_ret (pe_and (pe_cmpR op_notN (pv 4) pe_non (nomark _)) (pe_one (pe_chain op_le op_le (pe_ix ix_tup (pv 4) pe_int (fun _ _ => rfl)) (pe_ix ix_tup (pv 1) pe_int (fun _ _ => rfl)) (pe_ix ix_tup (pv 4) pe_int (fun _ _ => rfl)))))))))), ?_⟩)
  · obtain ⟨a, b, v, q, e, lo, hi, n, rfl, _⟩ := h
    rfl
  · obtain ⟨a, b, v, q, e, lo, hi, n, rfl, ha, hb, hv, i1, i2, nr, hn, k⟩ := h
    refine ⟨_, rfl, a, q, rfl, ha, fun H1 s1 => ?_⟩
    refine ⟨_, rfl, b, e, rfl, hb.mono s1, fun H2 s2 => ?_⟩
    have s12 := s1.trans s2
    refine ⟨_, rfl, ?_⟩
    refine ⟨_, rfl, _, _, _, _, rfl, rfl, SqT.of (hb.mono s12), atI_nat (j := 0) rfl, ?_⟩
    refine ⟨_, rfl, _, _, _, _, rfl, rfl, SqT.of (hb.mono s12), atI_nat (j := 1) rfl, _, rfl, _, rfl, rfl, rfl, ?_⟩
    refine ⟨a, v, q, e, lo, hi, (n : Int), rfl, ha.mono s12, hv.mono s12, i1, i2, nr, by omega, by omega, fun hp H3 s3 => ?_, fun j hp H3 t s3 ht => ?_⟩
    · refine ⟨_, rfl, rfl, false, rfl, ?_⟩
      refine k false H3 (s12.trans s3) ⟨(fun z => by cases z), fun p => ?_⟩
      obtain ⟨j, hj, hnj, _⟩ := (HS.path_iff i1 i2).mp p
      unfold pairsFor at hp
      unfold HS.bare at hnj
      rw [if_pos (by omega)] at hp
      cases hp
    · obtain ⟨hj, hnj⟩ := pairsFor_rg hp
      refine ⟨_, rfl, rfl, true, rfl, ?_⟩
      have hb3 := (hb.mono s12).mono s3
      refine ⟨_, rfl, t, _, _, _, rfl, rfl, SqT.of ht, atI_nat (j := 0) rfl, ?_⟩
      refine ⟨_, rfl, b, _, _, _, rfl, rfl, SqT.of hb3, atI_nat (j := 2) rfl, _, _, rfl, rfl, _, rfl, ?_⟩
      have key : HS.Pth lo hi n q e ↔ HS.InRange lo hi q e j := by
        rw [HS.path_iff i1 i2]
        constructor
        · rintro ⟨i, hi0, hni, hr⟩
          unfold HS.bare at hni
          have : i = j := by omega
          rw [← this]
          exact hr
        · intro hr
          exact ⟨j, hj, by unfold HS.bare; omega, hr⟩
      have eS : HS.dS q e = e.2.2 - q.2.2 - q.2.1 * HS.dX q e := rfl
      unfold HS.InRange at key
      rw [eS] at key
      refine ite2 (fun c => ?_) (fun c => ?_)
      · have c1 : q.2.2 + q.2.1 * HS.dX q e + -(HS.exOf lo hi q e (-1)).greatest j ≤ e.2.2 := of_decide_eq_true c
        refine ⟨_, rfl, t, _, _, _, rfl, rfl, SqT.of ht, atI_nat (j := 1) rfl, _, _, rfl, rfl, ?_⟩
        refine k _ H3 (s12.trans s3) ?_
        rw [key, decide_eq_true_iff]
        constructor
        · intro z
          have z' : e.2.2 ≤ q.2.2 + q.2.1 * HS.dX q e + (HS.exOf lo hi q e 1).greatest j := z
          omega
        · intro z
          show e.2.2 ≤ q.2.2 + q.2.1 * HS.dX q e + (HS.exOf lo hi q e 1).greatest j
          omega
      · have c1 : ¬ q.2.2 + q.2.1 * HS.dX q e + -(HS.exOf lo hi q e (-1)).greatest j ≤ e.2.2 := fun z => c (decide_eq_true z)
        refine k false H3 (s12.trans s3) ⟨(fun z => by cases z), fun z => ?_⟩
        have := key.mp z
        omega
end
end Hs
set_option maxHeartbeats 4000000
namespace Hs
open PySem L2 HSR
/-! ### tables as they stand in the heap -/
def key (q : HS.St) : List Key := [.inl q.1, .inl q.2.1, .inl q.2.2]
def ent (p : HS.St × Int) : List Key × V := (key p.1, .int p.2)
def TabH (H : Hp) (a : Addr) (T : HS.Tab) : Prop := H a = some (.dT (T.map ent))
theorem key_inj {q r : HS.St} (h : key q = key r) : q = r := by
  obtain ⟨x, h1, s⟩ := q
  obtain ⟨x', h', s'⟩ := r
  unfold key at h
  simp at h
  obtain ⟨rfl, rfl, rfl⟩ := h
  rfl
theorem val_ent (T : HS.Tab) (q : HS.St) : valV (T.map ent) (key q) = (HS.getT T q).map V.int := by
  induction T with
  | nil => rfl
  | cons a T ih =>
    rw [List.map_cons, HS.getT_cons]
    by_cases h : a.1 = q
    · rw [if_pos h, valV_pos (p := ent a) (by rw [← h]; rfl)]
      rfl
    · rw [if_neg h, valV_neg (p := ent a) (fun z => h (key_inj z)), ih]
theorem val_none {T : HS.Tab} {q : HS.St} (h : q ∉ T.map (·.1)) : valV (T.map ent) (key q) = none := by
  rw [val_ent, HS.getT_none h]
  rfl
theorem put_ent : ∀ {T : HS.Tab} {q : HS.St} {n : Int}, (T.map (·.1)).Nodup → putK (T.map ent) (key q) (V.int n) = (HS.putT T q n).map ent
  | [], q, n, _ => rfl
  | a :: T, q, n, nd => by
    rw [List.map_cons, List.nodup_cons] at nd
    have ih := put_ent (T := T) (q := q) (n := n) nd.2
    have anyc : ((a :: T).map ent).any (fun kv => decide (kv.1 = key q)) = (decide (a.1 = q) || (T.map ent).any fun kv => decide (kv.1 = key q)) := by
      rw [List.map_cons, List.any_cons]
      congr 1
      rw [decide_eq_decide]
      exact ⟨key_inj, fun z => by rw [← z]; rfl⟩
    unfold HS.putT
    by_cases h : a.1 = q
    · rw [if_pos h]
      have none' : (T.map ent).any (fun kv => decide (kv.1 = key q)) = false := by
        rw [valV_any, val_none (by rw [← h]; exact nd.1)]
        rfl
      unfold putK
      rw [anyc, decide_eq_true h, Bool.true_or, if_pos rfl, List.map_cons, List.map_cons, List.map_cons, if_pos (show (ent a).1 = key q by rw [← h]; rfl)]
      have same : (T.map ent).map (fun kv => if kv.1 = key q then (kv.1, V.int n) else kv) = T.map ent := by
        refine (List.map_congr_left fun kv hkv => ?_).trans (List.map_id _)
        have := List.any_eq_false.mp none' kv hkv
        rw [if_neg (by simpa using this)]
        rfl
      rw [same, ← h]
      rfl
    · rw [if_neg h]
      rw [List.map_cons] at anyc
      rw [List.map_cons, List.map_cons, ← ih]
      unfold putK
      rw [anyc, decide_eq_false h, Bool.false_or]
      by_cases c : ((T.map ent).any fun kv => decide (kv.1 = key q)) = true
      · rw [if_pos c, if_pos c, List.map_cons, if_neg (show ¬ (ent a).1 = key q from fun z => h (key_inj z))]
      · rw [if_neg c, if_neg c]
        rfl
theorem put_new {T : HS.Tab} {q : HS.St} {n : Int} (h : q ∉ T.map (·.1)) : putK (T.map ent) (key q) (V.int n) = (T ++ [(q, n)]).map ent := by
  rw [putK_new _ (val_none h), List.map_append]
  rfl
theorem key_tri (q : HS.St) : (key q).map kV = tri q := rfl
/-! ### walks over items with tuple keys -/
theorem walk_itemsT {d : Addr} {o : Obj} {kvs : List (List Key × V)} : Walk (ItT d o kvs) kvs.length (fun H => H d = some (.frz o (.dT kvs)))
    (fun i H x H' => ∃ (T q : Addr) (k : List Key) (v : V), kvs[i]? = some (k, v) ∧ x = .ref T ∧ H q = some (.tup (k.map kV)) ∧ H T = none ∧ H' = upd H T (.tup [.ref q, v])) :=
  ⟨fun _ _ hi q => ⟨q, hi⟩, fun _ q => ⟨q, Nat.le_refl _⟩, fun _ _ _ _ _ _ y => y⟩
theorem dc_it {J : It} {n : Nat} {G : Hp → Prop} {Y : Nat → Hp → V → Hp → Prop} (w : Walk J n G Y) {g : TG} {tt : TT} {tk tv : TE} {vs : List Nat} {σ : L2.St} {H1 : Hp} {D : Addr} {Qd : Hp → Prop} (Pv : Nat → Hp → Prop) (h0 : Pv 0 (upd H1 D (.dT []))) (hG : ∀ i H, i ≤ n → Pv i H → G H)
    (hs : ∀ i x H H', i < n → Pv i H → Y i H x H' → g x (wipe σ vs) H' fun σ2 H2 => wipe σ2 vs = wipe σ vs ∧ DcTurn tt tk tv D (Pv (i + 1)) σ2 H2) (hd : ∀ H, Pv n H → Qd H) :
    ∃ W : Nat → Nat → Hp → Prop, (∃ m, W 0 m (upd H1 D (.dT []))) ∧ ∀ i m H, W i m H →
      (J.stop i H ∧ Qd H) ∨ (J.go i H ∧ ∃ Nx : Hp → Prop, (∀ H', Nx H' → ∃ m', m' < m ∧ W (i + 1) m' H') ∧ ∀ x H', J.yld i H x H' → g x (wipe σ vs) H' fun σ2 H2 => wipe σ2 vs = wipe σ vs ∧ DcTurn tt tk tv D Nx σ2 H2) := by
  refine ⟨fun i m H => m = n - i ∧ i ≤ n ∧ Pv i H, ⟨n, (Nat.sub_zero n).symm, Nat.zero_le _, h0⟩, fun i m H h => ?_⟩
  obtain ⟨rfl, hi, p⟩ := h
  have q := hG i H hi p
  rcases Nat.lt_or_ge i n with lt | ge
  · exact .inr ⟨w.goes i H lt q, Pv (i + 1), fun H' p' => ⟨n - (i + 1), by omega, rfl, lt, p'⟩, fun x H' y => hs i x H H' lt p (w.yields i H x H' lt q y)⟩
  · obtain rfl : i = n := by omega
    exact .inl ⟨w.stops H q, hd H p⟩
/-- behind a lock: all as it was, but what was not known -/
theorem lock_back {H H' : Hp} {c : Addr} {u : HO} (hc : H c = some u) (k : ∀ b o, b ≠ c → H b = some o → H' b = some o) : Same H (upd H' c u) := fun b o e => by
  by_cases h : b = c
  · rw [h, upd_same, ← hc, ← h]
    exact e
  · rw [upd_ne h]
    exact k b o h e
theorem addTo_snoc {lo hi : Option Int} {q : HS.St} {n : Int} (s : HS.Sp) : ∀ (r : List HS.Sp) (X : HS.Tab), HS.addTo lo hi q n X (r ++ [s]) = HS.add1 lo hi n (HS.addTo lo hi q n X r) (HS.aft q s)
  | [], _ => rfl
  | _ :: r, _ => addTo_snoc s r _
section
variable {P : Program} {w : World} {K : PySem.W.Frag} {mg : Str → Option Value} {base : Heap} {f : Addr} {fd : FuncData}
/-! ### extend_paths -/
abbrev s_extend_paths : Stmt := top 44
theorem sc_extend_paths : FnScope ["counts", "limits", "extended", "state", "paths", "step", "later"] ["counts", "limits"] (defScope s_extend_paths) := ⟨rfl, rfl, rfl, by decide +kernel, rfl, by decide +kernel, by decide +kernel⟩
def Pre (lo hi : Option Int) (T : HS.Tab) (i : Nat) : HS.Tab := (T.take i).foldl (fun X p => HS.addTo lo hi p.1 p.2 X HS.steps) []
theorem pre_succ {lo hi : Option Int} {T : HS.Tab} {i : Nat} {p : HS.St × Int} (h : T[i]? = some p) : Pre lo hi T (i + 1) = HS.addTo lo hi p.1 p.2 (Pre lo hi T i) HS.steps := by
  unfold Pre
  rw [List.take_add_one, h, List.foldl_append]
  rfl
theorem pre_len {lo hi : Option Int} (T : HS.Tab) (i : Nat) : (Pre lo hi T i).length ≤ 4 * T.length := by
  have h := HS.len_fold (lo := lo) (hi := hi) (T.take i) []
  have h2 : (T.take i).length ≤ T.length := List.length_take_le' _ _
  unfold Pre
  simp at h
  omega
def spExtend (K : PySem.W.Frag) : Sp := fun vs H Q _ => ∃ (c l : Addr) (lo hi : Option Int) (q0 : HS.St) (i : Nat) (T : HS.Tab), vs = [.ref c, .ref l] ∧ TabH H c T ∧ BandH K H l lo hi ∧ HS.TabOk lo hi q0 i T ∧ T.length ≤ 1000000 ∧
  ∀ H' p, Same H H' → H p = none → TabH H' p (HS.extT lo hi T) → Q (.ref p) H'
theorem nd_addTo {lo hi : Option Int} {q : HS.St} {n : Int} : ∀ (r : List HS.Sp) {X : HS.Tab}, (X.map (·.1)).Nodup → ((HS.addTo lo hi q n X r).map (·.1)).Nodup
  | [], _, h => h
  | s :: r, X, h => nd_addTo r (by
    unfold HS.add1
    split
    · exact HS.nd_put h
    · exact h)
theorem nd_pre {lo hi : Option Int} (T : HS.Tab) : ∀ i, ((Pre lo hi T i).map (·.1)).Nodup
  | 0 => List.nodup_nil
  | i + 1 => by
    cases h : T[i]? with
    | some p =>
      rw [pre_succ h]
      exact nd_addTo _ (nd_pre T i)
    | none =>
      have : Pre lo hi T (i + 1) = Pre lo hi T i := by
        unfold Pre
        rw [List.take_add_one, h]
        simp
      rw [this]
      exact nd_pre T i
theorem stepV {j : Nat} {x : V} (h : ([.str "E", .str "W", .str "U", .str "D"] : List V)[j]? = some x) : ∃ c, x = .str (nm c) ∧ HS.steps[j]? = some c := by
  match j, h with
  | 0, h => exact ⟨.E, (Option.some.inj h).symm, rfl⟩
  | 1, h => exact ⟨.W, (Option.some.inj h).symm, rfl⟩
  | 2, h => exact ⟨.U, (Option.some.inj h).symm, rfl⟩
  | 3, h => exact ⟨.D, (Option.some.inj h).symm, rfl⟩
  | _ + 4, h => cases h
theorem ok_extend (T0 : Txt K mg) (c_after_step : Fn P w K mg base 1 "after_step" [] ["state", "step"] spAfter) (m_Band_includes : Mh P w K mg base 1 "Band" "includes" ["self", "height"] (spIncludes K))
    (F : FnP K "extend_paths" s_extend_paths [] [] f fd) : FnOk P w K mg base CX0 2 f fd ["counts", "limits"] (spExtend K) := by
  have T := T0
  refine F.ok sc_extend_paths (fun vs H Q E h => ?_) (fun cdv A outer s H vs Q E hr h => ⟨_, PSs.nox (pss_cons (ps_set (i := 2) sc_extend_paths.nd rfl (Or.inl rfl) pe_dnewT) (pss_cons (ps_lock (ps_for PassesOwn.never rfl (pi_itemsT (pv 0)) (pg_tup rfl (pgs_cons (pg_name (i := 3) sc_extend_paths.nd rfl (Or.inl rfl)) (pgs_cons (pg_name (i := 4) sc_extend_paths.nd rfl (Or.inl rfl)) pgs_nil))) (pss_one (ps_for PassesOwn.never rfl (pi_tup (pe_glob (v := .ref (He.ga K "STEPS")) rfl T.gSTEPS rfl)) (pg_name (i := 5) sc_extend_paths.nd rfl (Or.inl rfl)) (pss_cons (ps_set (i := 6) sc_extend_paths.nd rfl (Or.inl rfl) (pe_callF c_after_step (hr.mono (by decide)) (pa_cons (pv 3) (pa_cons (pv 5) pa_nil)))) (pss_one (ps_if (pt_val (pe_methF m_Band_includes (hr.mono (by decide)) (pv 1) (pa_cons (pe_ix ix_tup (pv 6) pe_int (fun _ _ => rfl)) pa_nil))) (pss_one (ps_dput (hu_of hr) (pv 2) (pv 6) (pe_op op_add (pe_dget2 (hu_of hr) (pv 2) (pv 6) pe_int ⟨rfl, rfl, rfl, rfl⟩) (pv 4)) rfl)) pss_nil))))))) (pss_one (ps_ret (pv 2))))), ?_⟩)
  · obtain ⟨c, l, lo, hi, q0, i, T, rfl, _⟩ := h
    rfl
  · obtain ⟨c, l, lo, hi, q0, i0, T, rfl, hc, hB, okT, hlen, k⟩ := h
    refine fun p np => ?_
    have ncp : c ≠ p := ne_of_none hc np
    refine ⟨c, .dT (T.map ent), (by rw [upd_ne ncp]; exact hc), True.intro, fun od => ?_⟩
    refine ⟨_, rfl, c, od, T.map ent, rfl, upd_same, for_it walk_itemsT (fun i σ H' => ∃ v3 v4 v5 v6, σ = [some (.ref c), some (.ref l), some (.ref p), v3, v4, v5, v6] ∧ (∀ b o, b ≠ c → H b = some o → H' b = some o) ∧
      H' c = some (.frz od (.dT (T.map ent))) ∧ TabH H' p (Pre lo hi T i)) ⟨none, none, none, none, rfl, fun b o hb e => ?_, upd_same, ?_⟩ (fun i σ H' _ h => ?_) ?_ ?_⟩
    · rw [upd_ne hb, upd_ne (ne_of_none e np)]
      exact e
    · show (upd (upd H p (.dT [])) c _) p = _
      rw [upd_ne ncp.symm, upd_same]
      rfl
    · obtain ⟨_, _, _, _, _, _, h, _⟩ := h
      exact h
    · rintro i x σ H1 H2 hi' ⟨v3, v4, v5, v6, rfl, keep, hfc, hp⟩ ⟨t, qa, kk, vv, hk, rfl, hqa, nt, rfl⟩
      rw [List.getElem?_map] at hk
      cases hT : T[i]? with
      | none =>
        rw [hT] at hk
        cases hk
      | some pr =>
      obtain ⟨q, n⟩ := pr
      rw [hT] at hk
      obtain ⟨rfl, rfl⟩ := Prod.mk.inj (Option.some.inj hk).symm
      have s1 := same_new (o := .tup [.ref qa, .int n]) nt
      refine ⟨t, _, rfl, SqT.of upd_same, rfl, _, _, rfl, _, _, rfl, rfl, ?_⟩
      refine ⟨_, rfl, ⟨_, T0.steps _⟩, for_it walk_tup (fun j σ H' => ∃ v5 v6, σ = [some (.ref c), some (.ref l), some (.ref p), some (.ref qa), some (.int n), v5, v6] ∧ (∀ b o, b ≠ c → H b = some o → H' b = some o) ∧
        H' c = some (.frz od (.dT (T.map ent))) ∧ StH H' qa q ∧ TabH H' p (HS.addTo lo hi q n (Pre lo hi T i) (HS.steps.take j))) ⟨v5, v6, rfl, fun b o hb e => s1 _ _ (keep b o hb e), s1 _ _ hfc, s1 _ _ hqa, s1 _ _ hp⟩ (fun _ _ _ _ _ => T0.steps _) ?_ ?_⟩
      · rintro j x σ H3 H3' hj ⟨v5, v6, rfl, keep, hfc, hqs, hp⟩ ⟨rfl, hx⟩
        obtain ⟨st, rfl, hst⟩ := stepV hx
        have hB3 : BandH K H3' l lo hi := by
          obtain ⟨dx, hb⟩ := hB
          exact ⟨dx, keep l _ (ne_of hb hc (fun z => nomatch z)) hb⟩
        refine ⟨_, rfl, _, rfl, qa, q, st, rfl, hqs, fun H4 u s4 hu => ?_⟩
        obtain ⟨dx, hb⟩ := hB3.mono s4
        refine ⟨_, rfl, l, dx, _, rfl, hb, bi, _, rfl, u, _, _, _, rfl, rfl, SqT.of hu, atI_nat (j := 1) rfl, l, lo, hi, _, rfl, ⟨dx, hb⟩, _, rfl, ?_⟩
        have keep4 : ∀ b o, b ≠ c → H b = some o → H4 b = some o := fun b o hb e => s4 _ _ (keep b o hb e)
        have tk : HS.steps.take (j + 1) = HS.steps.take j ++ [st] := by
          rw [List.take_add_one, hst]
          rfl
        have hp4 := s4 _ _ hp
        refine ite2 (fun z => ?_) (fun z => ?_)
        · have eg : (valV ((HS.addTo lo hi q n (Pre lo hi T i) (HS.steps.take j)).map ent) (key (HS.aft q st))).getD (.int 0) = V.int ((HS.getT (HS.addTo lo hi q n (Pre lo hi T i) (HS.steps.take j)) (HS.aft q st)).getD 0) := by
            rw [val_ent]
            cases HS.getT (HS.addTo lo hi q n (Pre lo hi T i) (HS.steps.take j)) (HS.aft q st) <;> rfl
          refine ⟨_, rfl, p, rfl, .inr ⟨_, .inl hp4⟩, _, rfl, _, DGet.t (k := key (HS.aft q st)) hp4 hu, _, rfl, _, _, eg, rfl, ?_⟩
          have big : (HS.addTo lo hi q n (Pre lo hi T i) (HS.steps.take j)).length ≤ 4 * T.length + 4 := by
            have h1 := HS.len_add (lo := lo) (hi := hi) q n (HS.steps.take j) (Pre lo hi T i)
            have h2 := pre_len (lo := lo) (hi := hi) T i
            have h3 : (HS.steps.take j).length ≤ 4 := List.length_take_le' _ _
            omega
          refine ⟨_, rfl, _, rfl, p, _, rfl, DPut.t (k := key (HS.aft q st)) hp4 hu ?_, ?_⟩
          · rw [List.length_map, sizeLine_eq]
            omega
          refine ⟨_, _, rfl, fun b o hb e => ?_, ?_, ?_, ?_⟩
          · rw [upd_ne (ne_of_none e np)]
            exact keep4 b o hb e
          · rw [upd_ne ncp]
            exact s4 _ _ hfc
          · show (upd H4 p _) qa = _
            rw [upd_ne (ne_of (s4 _ _ hqs) hp4 (fun z => nomatch z))]
            exact s4 _ _ hqs
          · show (upd H4 p _) p = _
            rw [upd_same, tk, addTo_snoc]
            unfold HS.add1
            rw [if_pos z, put_ent (nd_addTo _ (nd_pre T i))]
        · refine ⟨_, _, rfl, keep4, s4 _ _ hfc, s4 _ _ hqs, ?_⟩
          show H4 p = _
          rw [tk, addTo_snoc]
          unfold HS.add1
          rw [if_neg z]
          exact hp4
      · rintro σ H3 ⟨v5, v6, rfl, keep, hfc, hqs, hp⟩
        refine ⟨_, _, _, _, rfl, keep, hfc, ?_⟩
        rw [pre_succ hT]
        exact hp
    · rintro σ H1 ⟨v3, v4, v5, v6, rfl, keep, hfc, hp⟩
      refine ⟨hfc, _, rfl, ?_⟩
      refine k _ p (lock_back hc keep) np ?_
      show (upd H1 c _) p = _
      rw [upd_ne ncp.symm]
      have e : Pre lo hi T (T.map ent).length = HS.extT lo hi T := by
        unfold Pre HS.extT
        rw [List.length_map, List.take_length]
      rw [← e]
      exact hp
end
end Hs
set_option maxHeartbeats 4000000
namespace Hs
open PySem L2 HSR
theorem near_of {lo hi : Option Int} {n : Nat} {q e : HS.St} (p : HS.Pth lo hi n q e) (h : n ≤ 1000) : Near q e := by
  obtain ⟨h1, h2, h3⟩ := HS.pth_box p
  have : n * n ≤ 1000 * 1000 := Nat.mul_le_mul h h
  unfold Near
  omega
section
variable {P : Program} {w : World} {K : PySem.W.Frag} {mg : Str → Option Value} {base : Heap} {f : Addr} {fd : FuncData}
/-! ### count_paths -/
abbrev s_count_paths : Stmt := top 45
theorem sc_count_paths : FnScope ["start", "end", "length", "band", "limits", "counts", "index"] ["start", "end", "length", "band"] (defScope s_count_paths) := ⟨rfl, rfl, rfl, by decide +kernel, rfl, by decide +kernel, by decide +kernel⟩
def spCount (K : PySem.W.Frag) : Sp := fun vs H Q _ => ∃ (a b : Addr) (v : V) (q e : HS.St) (lo hi : Option Int) (n : Nat), vs = [.ref a, .ref b, .int n, v] ∧ StH H a q ∧ StH H b e ∧ BandV K H v lo hi ∧ HS.ins lo hi q.2.1 = true ∧ HS.ins lo hi e.2.1 = true ∧ Near q e ∧ n ≤ 10 ∧
  ∀ H', Same H H' → Q (.int (HS.cnt lo hi n e q)) H'
theorem four_le {n : Nat} (h : n ≤ 9) : 4 ^ n ≤ 262144 := Nat.le_trans (Nat.pow_le_pow_right (by decide) h) (by decide)
theorem ok_count (T : Txt K mg) (c_check_state : Fn P w K mg base 3 "check_state" [] ["value"] spCheckState) (c_check_integer2 : Fn P w K mg base 2 "check_integer" [] ["value", "least"] spCheckInt) (c_to_band : Fn P w K mg base 4 "to_band" [] ["value"] (spToBand K))
    (c_displacement_and_room : Fn P w K mg base 5 "displacement_and_room" [] ["start", "end", "band"] (spDispRoom K)) (c_extend_paths : Fn P w K mg base 2 "extend_paths" [] ["counts", "limits"] (spExtend K))
    (F : FnP K "count_paths" s_count_paths [] [("band", .non)] f fd) : FnOk P w K mg base CX0 6 f fd ["start", "end", "length", "band"] (spCount K) := by
  refine F.ok sc_count_paths (fun vs H Q E h => ?_) (fun cdv A outer s H vs Q E hr h => ⟨_, PSs.nox (pss_cons (ps_expr (pe_callF c_check_state (hr.mono (by decide)) (pa_cons (pv 0) pa_nil))) (pss_cons (ps_expr (pe_callF c_check_state (hr.mono (by decide)) (pa_cons (pv 1) pa_nil))) (pss_cons (ps_expr (pe_callF c_check_integer2 (hr.mono (by decide)) (pa_cons (pv 2) (pa_cons pe_int pa_nil)))) (pss_cons (ps_if (pt_cmpR op_gt (pv 2) (pe_globI T.gMAX_PATH_STEPS) (nomark _)) (pss_one ps_never) pss_nil) (pss_cons (ps_expr (pe_callF c_displacement_and_room (hr.mono (by decide)) (pa_cons (pv 0) (pa_cons (pv 1) (pa_cons (pv 3) pa_nil))))) (pss_cons (ps_set (i := 4) sc_count_paths.nd rfl (Or.inl rfl) (pe_callF c_to_band (hr.mono (by decide)) (pa_cons (pv 3) pa_nil))) (pss_cons (ps_set (i := 5) sc_count_paths.nd rfl (Or.inl rfl) (pe_oneT (hu_of hr) (pv 0) pe_int)) (pss_cons (ps_for PassesOwn.never rfl (pi_range1 (by rfl) T.range_ (pa_cons (pv 2) pa_nil)) (pg_name (i := 6) sc_count_paths.nd rfl (Or.inl rfl)) (pss_one (ps_set (i := 5) sc_count_paths.nd rfl (Or.inl rfl) (pe_callF c_extend_paths (hr.mono (by decide)) (pa_cons (pv 5) (pa_cons (pv 4) pa_nil)))))) (pss_one (ps_ret (pe_dget2 (hu_of hr) (pv 5) (pv 1) pe_int ⟨rfl, rfl, rfl, rfl⟩))))))))))), ?_⟩)
  · obtain ⟨a, b, v, q, e, lo, hi, n, rfl, _⟩ := h
    rfl
  · obtain ⟨a, b, v, q, e, lo, hi, n, rfl, ha, hb, hv, i1, i2, nr, hn, k⟩ := h
    refine ⟨_, rfl, a, q, rfl, ha, fun H1 s1 => ?_⟩
    refine ⟨_, rfl, b, e, rfl, hb.mono s1, fun H2 s2 => ?_⟩
    have s12 := s1.trans s2
    refine ⟨_, rfl, _, .inr ⟨0, by omega, rfl⟩, ?_⟩
    refine ⟨_, rfl, _, _, rfl, rfl, _, rfl, ?_⟩
    rw [decide_eq_false (show ¬ (10 : Int) < n by omega)]
    refine ⟨_, rfl, _, rfl, _, rfl, a, b, v, q, e, lo, hi, rfl, ha.mono s12, hb.mono s12, hv.mono s12, i1, i2, nr, fun H3 t p r s3 _ _ _ => ?_⟩
    have s13 := s12.trans s3
    refine ⟨_, rfl, v, lo, hi, rfl, hv.mono s13, fun H4 l s4 hB => ?_⟩
    have s14 := s13.trans s4
    have ha4 := ha.mono s14
    have hb4 := hb.mono s14
    -- {start: 1}
    refine fun c nc => ⟨_, rfl, a, key q, rfl, (by rw [upd_ne (ne_of_none ha4 nc)]; exact ha4), upd_same, ?_⟩
    rw [upd_upd]
    have s5 := same_new (o := .dT [(key q, .int 1)]) nc
    refine ⟨_, rfl, (n : Int), rfl, by omega, by omega, for_range (lo := 0) (n := n) (fun i σ H' => ∃ (c : Addr) (v6 : Option V) (T : HS.Tab), σ = [some (.ref a), some (.ref b), some (.int n), some v, some (.ref l), some (.ref c), v6] ∧ Same H4 H' ∧ TabH H' c T ∧
      HS.TabOk lo hi q i T ∧ T.length ≤ 4 ^ i ∧ HS.pair T (HS.cnt lo hi (n - i) e) = HS.cnt lo hi n e q) ⟨c, none, [(q, 1)], rfl, s5, upd_same, HS.tabOk_start q, Nat.le_refl 1, ?_⟩ ?_ ?_⟩
    · rw [HS.pair_cons, HS.pair_nil]
      simp
    · rintro i σ H5 hi' ⟨c, v6, T, rfl, s5, hc, okT, len, hp⟩
      have l4 := four_le (n := i) (by omega)
      refine ⟨_, rfl, _, rfl, c, l, lo, hi, q, i, T, rfl, hc, hB.mono s5, okT, by omega, fun H6 p s6 _ hp6 => ?_⟩
      refine ⟨p, _, HS.extT lo hi T, rfl, s5.trans s6, hp6, HS.tabOk_ext okT, ?_, ?_⟩
      · have := HS.len_ext (lo := lo) (hi := hi) T
        rw [Nat.pow_succ]
        omega
      · rw [HS.pair_ext, ← hp]
        have e1 : n - i = (n - (i + 1)) + 1 := by omega
        rw [e1]
        rfl
    · rintro σ H5 ⟨c, v6, T, rfl, s5, hc, okT, len, hp⟩
      refine ⟨_, rfl, c, rfl, .inr ⟨_, .inl hc⟩, _, rfl, _, DGet.t (k := key e) hc (hb4.mono s5), ?_⟩
      have ev : (valV (T.map ent) (key e)).getD (.int 0) = V.int (HS.cnt lo hi n e q) := by
        rw [val_ent, ← hp, Nat.sub_self]
        show _ = V.int (HS.pair T (HS.one e))
        rw [HS.pair_one okT.nd]
        cases HS.getT T e <;> rfl
      rw [ev]
      exact k H5 (s14.trans s5)
/-! ### count_shortest_paths -/
abbrev s_count_shortest_paths : Stmt := top 46
theorem sc_count_shortest_paths : FnScope ["start", "end", "band", "length", "limits", "counts", "left", "extended", "state", "paths"] ["start", "end", "band"] (defScope s_count_shortest_paths) := ⟨rfl, rfl, rfl, by decide +kernel, rfl, by decide +kernel, by decide +kernel⟩
def spShort (K : PySem.W.Frag) : Sp := fun vs H Q _ => ∃ (a b : Addr) (v : V) (q e : HS.St) (lo hi : Option Int) (d : Nat), vs = [.ref a, .ref b, v] ∧ StH H a q ∧ StH H b e ∧ BandV K H v lo hi ∧ HS.ins lo hi q.2.1 = true ∧ HS.DistN lo hi d q e ∧ d ≤ 14 ∧
  ∀ H', Same H H' → Q (.int (HS.cnt lo hi d e q)) H'
theorem distN_uniq {lo hi : Option Int} {q e : HS.St} {m n : Nat} (h : HS.DistN lo hi m q e) (k : HS.DistN lo hi n q e) : m = n := by
  have := Option.some.inj (HS.Dist.uniq h k)
  omega
theorem ok_short (T : Txt K mg) (ck_distance : KFn P w K mg base 8 2 "distance" ["start", "end", "band"] (spDist K)) (c_to_band : Fn P w K mg base 4 "to_band" [] ["value"] (spToBand K)) (c_extend_paths : Fn P w K mg base 2 "extend_paths" [] ["counts", "limits"] (spExtend K))
    (c_distance_or_none : Fn P w K mg base 8 "distance_or_none" [] ["start", "end", "limits"] (spDistN K)) (F : FnP K "count_shortest_paths" s_count_shortest_paths [] [("band", .non)] f fd) :
    FnOk P w K mg base CX0 9 f fd ["start", "end", "band"] (spShort K) := by
  refine F.ok sc_count_shortest_paths (fun vs H Q E h => ?_) (fun cdv A outer s H vs Q E hr h => ⟨_, PSs.nox (pss_cons (ps_set (i := 3) sc_count_shortest_paths.nd rfl (Or.inl rfl) (pe_callKF ck_distance (hr.mono (by decide)) (pa_cons (pv 0) (pa_cons (pv 1) pa_nil)) (pk_cons (pv 2) pk_nil))) (pss_cons (ps_if (pt_cmpR op_gt (pv 3) (pe_globI T.gMAX_SHORTEST_STEPS) (nomark _)) (pss_one ps_never) pss_nil) (pss_cons (ps_set (i := 4) sc_count_shortest_paths.nd rfl (Or.inr rfl) (pe_callF c_to_band (hr.mono (by decide)) (pa_cons (pv 2) pa_nil))) (pss_cons (ps_set (i := 5) sc_count_shortest_paths.nd rfl (Or.inl rfl) (pe_oneT (hu_of hr) (pv 0) pe_int)) (pss_cons (ps_for PassesOwn.never rfl (pi_range3 (by rfl) T.range_ (pa_cons (pe_op op_sub (pv 3) pe_int) (pa_cons (pe_un un_neg pe_int) (pa_cons (pe_un un_neg pe_int) pa_nil)))) (pg_name (i := 6) sc_count_shortest_paths.nd rfl (Or.inr rfl)) (pss_cons (ps_set (i := 7) sc_count_shortest_paths.nd rfl (Or.inl rfl) (pe_callF c_extend_paths (hr.mono (by decide)) (pa_cons (pv 5) (pa_cons (pv 4) pa_nil)))) (pss_one (ps_lock (ps_setDcT (i := 5) (own := [("state", 8), ("paths", 9)]) (g := gTup K 2 (gCons (gName 8) (gCons (gName 9) gNil))) (hu_of hr) rfl sc_count_shortest_paths.nd rfl rfl (sw_trueD rfl rfl rfl (by decide +kernel)) (pi_itemsT (pv 7)) (blkOk_by (own := [("state", 8), ("paths", 9)]) (N := ["start", "end", "band", "length", "limits", "counts", "left", "extended", "state", "paths"]) (sc := defScope s_count_shortest_paths) (by decide +kernel)) (fun _ _ _ _ _ => (pg_tup rfl (pgs_cons (pg_name (i := 8) sc_count_shortest_paths.nd rfl (Or.inl rfl)) (pgs_cons (pg_name (i := 9) sc_count_shortest_paths.nd rfl (Or.inl rfl)) pgs_nil)))) (fun _ _ _ _ _ => (pts_one (pt_cmpR op_eq (pe_callF c_distance_or_none (hr.mono (by decide)) (pa_cons (pv 8) (pa_cons (pv 1) (pa_cons (pv 4) pa_nil)))) (pv 6) (nomark _)))) (fun _ _ _ _ _ => (pv 8)) (fun _ _ _ _ _ => (pv 9))))))) (pss_one (ps_ret (pe_dget (hu_of hr) (pv 5) (pv 1) (fun _ _ => rfl))))))))), ?_⟩)
  · obtain ⟨a, b, v, q, e, lo, hi, d, rfl, _⟩ := h
    rfl
  · obtain ⟨a, b, v, q, e, lo, hi, d, rfl, ha, hb, hv, i1, hD, hd, k⟩ := h
    have pth := (HS.distN_iff.mp hD).1
    have i2 := pth.ends i1
    refine ⟨_, rfl, _, rfl, _, rfl, rfl, rfl, a, b, v, q, e, lo, hi, d, rfl, ha, hb, hv, i1, near_of pth (by omega), pth, fun d' H1 s1 hD' => ?_⟩
    obtain rfl := distN_uniq hD' hD
    refine ⟨_, rfl, _, _, rfl, rfl, _, rfl, ?_⟩
    rw [decide_eq_false (show ¬ (14 : Int) < d' by omega)]
    refine ⟨_, rfl, v, lo, hi, rfl, hv.mono s1, fun H2 l s2 hB => ?_⟩
    have s12 := s1.trans s2
    have ha2 := ha.mono s12
    have hb2 := hb.mono s12
    refine fun c nc => ⟨_, rfl, a, key q, rfl, (by rw [upd_ne (ne_of_none ha2 nc)]; exact ha2), upd_same, ?_⟩
    rw [upd_upd]
    have s3 := same_new (o := .dT [(key q, .int 1)]) nc
    have en : ((d' : Int) - 1 - -1).toNat = d' := by omega
    refine ⟨_, rfl, _, _, rfl, rfl, _, rfl, _, rfl, _, _, _, _, rfl, RgC.neg (by omega) (by omega) (by omega) (by omega), ?_⟩
    rw [en]
    refine for_rangeC (lo := (d' : Int) - 1) (c := -1) (n := d') (fun i σ H' => ∃ (c : Addr) (v6 v7 v8 v9 : Option V) (T : HS.Tab), σ = [some (.ref a), some (.ref b), some v, some (.int d'), some (.ref l), some (.ref c), v6, v7, v8, v9] ∧ Same H2 H' ∧ TabH H' c T ∧
      HS.TabOk lo hi q i T ∧ HS.pair T (HS.sho lo hi e (d' - i)) = HS.cnt lo hi d' e q) ⟨c, none, none, none, none, [(q, 1)], rfl, s3, upd_same, HS.tabOk_start q, ?_⟩ ?_ ?_
    · rw [HS.pair_cons, HS.pair_nil]
      have := HS.sho_eq hD
      simp only [Nat.sub_zero]
      rw [this]
      simp
    · rintro i σ H4 hi' ⟨c, v6, v7, v8, v9, T, rfl, s4, hc, okT, hp⟩
      have small := HS.tab_small okT (by omega)
      refine ⟨_, rfl, _, rfl, c, l, lo, hi, q, i, T, rfl, hc, hB.mono s4, okT, by omega, fun H5 p s5 _ hp5 => ?_⟩
      have okX := HS.tabOk_ext okT
      have lenX := HS.len_ext (lo := lo) (hi := hi) T
      have s45 := s4.trans s5
      have left : ((d' : Int) - 1 + (i : Nat) * -1) = ((d' - (i + 1) : Nat) : Int) := by omega
      generalize hX : HS.extT lo hi T = X at hp5 okX lenX
      refine ⟨p, .dT (X.map ent), hp5, True.intro, fun od => ?_⟩
      refine ⟨_, rfl, p, od, _, rfl, upd_same, fun D nD => ?_⟩
      have nDp : D ≠ p := fun z => by
        rw [z, upd_same] at nD
        cases nD
      have nD5 : H5 D = none := by
        rw [upd_ne nDp] at nD
        exact nD
      refine dc_it walk_itemsT (fun j H' => (∀ b o, b ≠ p → H5 b = some o → H' b = some o) ∧ H' p = some (.frz od (.dT (X.map ent))) ∧ TabH H' D ((X.take j).filter fun z => HS.good lo hi e (d' - (i + 1)) z.1)) ⟨fun b o hb e => ?_, ?_, ?_⟩ (fun j H' _ h => h.2.1) ?_ ?_
      · rw [upd_ne (ne_of_none e nD5), upd_ne hb]
        exact e
      · rw [upd_ne nDp.symm]
        exact upd_same
      · exact upd_same
      · rintro j x H6 H7 hj ⟨keep, hfp, hDt⟩ ⟨t, qa, kk, vv, hk, rfl, hqa, nt, rfl⟩
        rw [List.getElem?_map] at hk
        cases hT : X[j]? with
        | none =>
          rw [hT] at hk
          cases hk
        | some pr =>
        obtain ⟨q', m⟩ := pr
        rw [hT] at hk
        obtain ⟨rfl, rfl⟩ := Prod.mk.inj (Option.some.inj hk).symm
        have s7 := same_new (o := .tup [.ref qa, .int m]) nt
        have memX : (q', m) ∈ X := List.mem_of_getElem? hT
        have pq := (okX.key _ memX).1
        have iq : HS.ins lo hi q'.2.1 = true := pq.ends i1
        have pback := HS.pth_trans (HS.pth_rev pq i1) pth
        refine ⟨t, _, rfl, SqT.of upd_same, rfl, _, _, rfl, _, _, rfl, rfl, rfl, ?_⟩
        have keep7 : ∀ b o, b ≠ p → H5 b = some o → (upd H6 t (.tup [.ref qa, .int m])) b = some o := fun b o hb e => s7 _ _ (keep b o hb e)
        have hb7 : StH (upd H6 t (.tup [.ref qa, .int m])) b e := keep7 b _ (ne_of (hb2.mono s45) hp5 (fun z => nomatch z)) (hb2.mono s45)
        have hB7 : BandH K (upd H6 t (.tup [.ref qa, .int m])) l lo hi := by
          obtain ⟨dx, hl⟩ := hB.mono s45
          exact ⟨dx, keep7 l _ (ne_of hl hp5 (fun z => nomatch z)) hl⟩
        refine ⟨_, rfl, _, rfl, _, rfl, qa, b, l, q', e, lo, hi, rfl, s7 _ _ hqa, hb7, hB7, iq, i2, near_of pback (by omega), fun r H8 s8 hr => ?_⟩
        have tk : X.take (j + 1) = X.take j ++ [(q', m)] := by
          rw [List.take_add_one, hT]
          rfl
        have s78 := s7.trans s8
        refine ⟨_, rfl, by cases r <;> rfl, _, rfl, ?_⟩
        rw [left]
        have gd : oV r = V.int ((d' - (i + 1) : Nat) : Int) ↔ HS.good lo hi e (d' - (i + 1)) q' = true := by
          rw [HS.good_iff]
          constructor
          · intro z
            cases r with
            | none => cases z
            | some x =>
              have : x = ((d' - (i + 1) : Nat) : Int) := V.int.inj z
              rw [this] at hr
              exact hr
          · intro z
            rw [HS.Dist.uniq hr z]
            rfl
        by_cases g : HS.good lo hi e (d' - (i + 1)) q' = true
        · rw [decide_eq_true (gd.mpr g)]
          have fl : ((X.take (j + 1)).filter fun z => HS.good lo hi e (d' - (i + 1)) z.1) = ((X.take j).filter fun z => HS.good lo hi e (d' - (i + 1)) z.1) ++ [(q', m)] := by
            rw [tk, List.filter_append]
            congr 1
            rw [List.filter_cons, if_pos g]
            rfl
          have hD8 := s78 _ _ hDt
          refine ⟨_, rfl, _, rfl, _, key q', qa, rfl, s78 _ _ hqa, hD8, ?_, fun b o hb e => ?_, ?_, ?_⟩
          · rw [List.length_map, sizeLine_eq]
            have h1 := List.length_filter_le (fun z : HS.St × Int => HS.good lo hi e (d' - (i + 1)) z.1) (X.take j)
            have h2 : (X.take j).length ≤ X.length := List.length_take_le' _ _
            omega
          · rw [upd_ne (ne_of_none e nD5)]
            exact s8 _ _ (keep7 b o hb e)
          · rw [upd_ne nDp.symm]
            exact s78 _ _ hfp
          · show (upd H8 D _) D = _
            rw [upd_same, fl, put_new]
            intro z
            obtain ⟨y, hy, ey⟩ := List.mem_map.mp z
            have hy2 := (List.mem_filter.mp hy).1
            have nd := okX.nd
            rw [← List.take_append_drop (j + 1) X, tk, List.append_assoc, List.map_append, List.nodup_append] at nd
            exact nd.2.2 _ (List.mem_map.mpr ⟨y, hy2, rfl⟩) q' (by simp) ey
        · rw [decide_eq_false (fun z => g (gd.mp z))]
          have fl : ((X.take (j + 1)).filter fun z => HS.good lo hi e (d' - (i + 1)) z.1) = ((X.take j).filter fun z => HS.good lo hi e (d' - (i + 1)) z.1) := by
            rw [tk, List.filter_append, List.filter_cons, if_neg g]
            simp
          refine ⟨fun b o hb e => s8 _ _ (keep7 b o hb e), s78 _ _ hfp, ?_⟩
          rw [fl]
          exact s78 _ _ hDt
      · rintro H6 ⟨keep, hfp, hDt⟩
        refine ⟨hfp, D, _, _, _, _, X.filter fun z => HS.good lo hi e (d' - (i + 1)) z.1, rfl, s45.trans (lock_back hp5 keep), ?_, HS.tabOk_filter okX _, ?_⟩
        · show (upd H6 p _) D = _
          rw [upd_ne nDp]
          rw [List.length_map, List.take_length] at hDt
          exact hDt
        · rw [HS.pair_filter, ← hX, HS.pair_ext, ← hp]
          have e1 : d' - i = (d' - (i + 1)) + 1 := by omega
          rw [e1]
          rfl
    · rintro σ H4 ⟨c, v6, v7, v8, v9, T, rfl, s4, hc, okT, hp⟩
      have val : (HS.getT T e).getD 0 = HS.cnt lo hi d' e q := by
        rw [← hp, Nat.sub_self]
        exact (HS.pair_one okT.nd e).symm
      have pos := HS.cnt_pos.mpr pth
      obtain ⟨n, hn⟩ : ∃ n, HS.getT T e = some n := by
        cases g : HS.getT T e with
        | none =>
          rw [g] at val
          simp only [Option.getD_none] at val
          omega
        | some n => exact ⟨n, rfl⟩
      have ev : valV (T.map ent) (key e) = some (V.int (HS.cnt lo hi d' e q)) := by
        rw [val_ent, ← val, hn]
        rfl
      refine ⟨_, rfl, _, rfl, c, _, rfl, ?_, k H4 (s12.trans s4)⟩
      rw [← ev]
      exact DGet.t (k := key e) hc (hb2.mono s4)
end
end Hs
set_option maxHeartbeats 4000000
namespace Hs
open PySem L2 HSR
section
variable {P : Program} {w : World} {K : PySem.W.Frag} {mg : Str → Option Value} {base : Heap} {f : Addr} {fd : FuncData}
/-! ### good_steps -/
abbrev s_good_steps : Stmt := top 48
theorem sc_good_steps : FnScope ["state", "goal", "limits", "length", "found", "step", "later"] ["state", "goal", "limits"] (defScope s_good_steps) := ⟨rfl, rfl, rfl, by decide +kernel, rfl, by decide +kernel, by decide +kernel⟩
/-- the step s begins a shortest path to e of m + 1 steps -/
noncomputable def nextS (lo hi : Option Int) (e : HS.St) (m : Nat) (q : HS.St) (s : HS.Sp) : Bool := HS.ins lo hi (HS.aft q s).2.1 && HS.good lo hi e m (HS.aft q s)
noncomputable def nextL (lo hi : Option Int) (e : HS.St) (m : Nat) (q : HS.St) (r : List HS.Sp) : List V := (r.filter (nextS lo hi e m q)).map fun s => V.str (nm s)
def spGood (K : PySem.W.Frag) : Sp := fun vs H Q _ => ∃ (a b l : Addr) (q e : HS.St) (lo hi : Option Int) (m : Nat), vs = [.ref a, .ref b, .ref l] ∧ StH H a q ∧ StH H b e ∧ BandH K H l lo hi ∧ HS.ins lo hi q.2.1 = true ∧ HS.DistN lo hi (m + 1) q e ∧ m ≤ 20 ∧
  ∀ H' p, Same H H' → H' p = some (.lst (nextL lo hi e m q HS.steps)) → Q (.ref p) H'
theorem ok_good (T0 : Txt K mg) (c_distance_or_none : Fn P w K mg base 8 "distance_or_none" [] ["start", "end", "limits"] (spDistN K)) (c_after_step : Fn P w K mg base 1 "after_step" [] ["state", "step"] spAfter)
    (m_Band_includes : Mh P w K mg base 1 "Band" "includes" ["self", "height"] (spIncludes K)) (F : FnP K "good_steps" s_good_steps [] [] f fd) : FnOk P w K mg base CX0 9 f fd ["state", "goal", "limits"] (spGood K) := by
  have T := T0
  refine F.ok sc_good_steps (fun vs H Q E h => ?_) (fun cdv A outer s H vs Q E hr h => ⟨_, PSs.nox (pss_cons (ps_set (i := 3) sc_good_steps.nd rfl (Or.inl rfl) (pe_callF c_distance_or_none (hr.mono (by decide)) (pa_cons (pv 0) (pa_cons (pv 1) (pa_cons (pv 2) pa_nil))))) (pss_cons (ps_set (i := 4) sc_good_steps.nd rfl (Or.inl rfl) (pe_lst pa_nil)) (pss_cons (ps_for PassesOwn.never rfl (pi_tup (pe_glob (v := .ref (He.ga K "STEPS")) rfl T.gSTEPS rfl)) (pg_name (i := 5) sc_good_steps.nd rfl (Or.inl rfl)) (pss_cons (ps_set (i := 6) sc_good_steps.nd rfl (Or.inl rfl) (pe_callF c_after_step (hr.mono (by decide)) (pa_cons (pv 0) (pa_cons (pv 5) pa_nil)))) (pss_one (ps_if (PW.pt (pw_and (pt_val (pe_methF m_Band_includes (hr.mono (by decide)) (pv 2) (pa_cons (pe_ix ix_tup (pv 6) pe_int (fun _ _ => rfl)) pa_nil))) (pw_and1 (pt_cmpR op_lt (pe_callF c_distance_or_none (hr.mono (by decide)) (pa_cons (pv 6) (pa_cons (pv 1) (pa_cons (pv 2) pa_nil)))) (pv 3) (nomark _))))) (pss_one (ps_expr (pe_bm PySem.F.plainAttrs_list PySem.F.slot_list_append PySem.F.type_list_append mt_append (pv 4) (pa_cons (pv 5) pa_nil)))) pss_nil)))) (pss_one (ps_ret (pv 4)))))), ?_⟩)
  · obtain ⟨a, b, l, q, e, lo, hi, m, rfl, _⟩ := h
    rfl
  · obtain ⟨a, b, l, q, e, lo, hi, m, rfl, ha, hb, hB, i1, hD, hm, k⟩ := h
    have pth := (HS.distN_iff.mp hD).1
    have i2 := pth.ends i1
    refine ⟨_, rfl, _, rfl, _, rfl, a, b, l, q, e, lo, hi, rfl, ha, hb, hB, i1, i2, near_of pth (by omega), fun r H1 s1 hr => ?_⟩
    have er := HS.Dist.uniq hr hD
    subst er
    refine ⟨Nat.zero_le _, fun p np => ?_⟩
    have s2 := s1.trans (same_new (o := .lst []) np)
    refine ⟨_, rfl, ⟨_, T0.steps _⟩, for_it walk_tup (fun j σ H' => ∃ v5 v6, σ = [some (.ref a), some (.ref b), some (.ref l), some (.int ((m + 1 : Nat) : Int)), some (.ref p), v5, v6] ∧ Same H H' ∧ H' p = some (.lst (nextL lo hi e m q (HS.steps.take j)))) ⟨none, none, rfl, s2, upd_same⟩ (fun _ _ _ _ _ => T0.steps _) ?_ ?_⟩
    · rintro j x σ H3 H3' hj ⟨v5, v6, rfl, s3, hp⟩ ⟨rfl, hx⟩
      obtain ⟨st, rfl, hst⟩ := stepV hx
      have tk : HS.steps.take (j + 1) = HS.steps.take j ++ [st] := by
        rw [List.take_add_one, hst]
        rfl
      have fl : nextL lo hi e m q (HS.steps.take (j + 1)) = if nextS lo hi e m q st = true then nextL lo hi e m q (HS.steps.take j) ++ [V.str (nm st)] else nextL lo hi e m q (HS.steps.take j) := by
        unfold nextL
        rw [tk, List.filter_append, List.map_append, List.filter_cons]
        by_cases c : nextS lo hi e m q st = true
        · rw [if_pos c, if_pos c]
          rfl
        · rw [if_neg c, if_neg c]
          simp
      have keepP : ∀ {H4 : Hp}, Same H3' H4 → nextS lo hi e m q st = false → Same H H4 ∧ H4 p = some (.lst (nextL lo hi e m q (HS.steps.take (j + 1)))) := fun s4 c => by
        rw [fl, if_neg (by rw [c]; decide)]
        exact ⟨s3.trans s4, s4 _ _ hp⟩
      refine ⟨_, rfl, _, rfl, a, q, st, rfl, ha.mono s3, fun H4 u s4 hu => ?_⟩
      have s34 := s3.trans s4
      obtain ⟨dx, hl⟩ := hB.mono s34
      refine ⟨_, rfl, l, dx, _, rfl, hl, bi, _, rfl, u, _, _, _, rfl, rfl, SqT.of hu, atI_nat (j := 1) rfl, l, lo, hi, _, rfl, ⟨dx, hl⟩, _, rfl, ?_⟩
      refine ite2 (fun c => ?_) (fun c => ?_)
      · have pl : HS.Pth lo hi (m + 2) (HS.aft q st) e := .cons (HS.opp st) (by rw [HS.aft_opp]; exact i1) (by rw [HS.aft_opp]; exact pth)
        refine ⟨_, rfl, _, rfl, _, rfl, u, b, l, _, e, lo, hi, rfl, hu, hb.mono s34, ⟨dx, hl⟩, c, i2, near_of pl (by omega), fun r H5 s5 hr5 => ?_⟩
        obtain ⟨n, rfl, hn⟩ := HS.dist_step hD i1 c hr5
        refine ⟨_, rfl, _, _, rfl, rfl, _, rfl, ?_⟩
        refine ite2 (fun z => ?_) (fun z => ?_)
        · have z1 : (n : Int) < ((m + 1 : Nat) : Int) := of_decide_eq_true z
          have en : n = m := by omega
          subst en
          have nx : nextS lo hi e n q st = true := by
            unfold nextS
            rw [c, Bool.true_and]
            exact HS.good_iff.mpr hr5
          have hp5 := (s4.trans s5) _ _ hp
          refine ⟨_, rfl, .inl ⟨rfl, _, SqL.of hp5⟩, _, rfl, p, _, _, rfl, rfl, hp5, ?_, ?_⟩
          · unfold nextL
            have h1 := List.length_filter_le (nextS lo hi e n q) (HS.steps.take j)
            have h2 : (HS.steps.take j).length ≤ 4 := List.length_take_le' _ _
            rw [List.length_map, sizeLine_eq]
            omega
          · refine ⟨_, _, rfl, fun b' o e' => ?_, ?_⟩
            · rw [upd_ne (ne_of_none (s1 _ _ e') np)]
              exact (s34.trans s5) _ _ e'
            · rw [upd_same, fl, if_pos nx]
        · have z1 : ¬ (n : Int) < ((m + 1 : Nat) : Int) := fun y => z (decide_eq_true y)
          have nx : nextS lo hi e m q st = false := by
            unfold nextS
            rw [c, Bool.true_and, Bool.eq_false_iff]
            intro g
            have := distN_uniq (HS.good_iff.mp g) hr5
            omega
          obtain ⟨k1, k2⟩ := keepP (s4.trans s5) nx
          exact ⟨_, _, rfl, k1, k2⟩
      · have nx : nextS lo hi e m q st = false := by
          unfold nextS
          rw [Bool.eq_false_iff.mpr c, Bool.false_and]
        obtain ⟨k1, k2⟩ := keepP s4 nx
        exact ⟨_, _, rfl, k1, k2⟩
    · rintro σ H3 ⟨v5, v6, rfl, s3, hp⟩
      exact ⟨_, rfl, k H3 p s3 hp⟩
/-! ### next_steps -/
abbrev s_next_steps : Stmt := top 49
theorem sc_next_steps : FnScope ["state", "goal", "band"] ["state", "goal", "band"] (defScope s_next_steps) := ⟨rfl, rfl, rfl, by decide +kernel, rfl, by decide +kernel, by decide +kernel⟩
def spNext (K : PySem.W.Frag) : Sp := fun vs H Q _ => ∃ (a b : Addr) (v : V) (q e : HS.St) (lo hi : Option Int) (m : Nat), vs = [.ref a, .ref b, v] ∧ StH H a q ∧ StH H b e ∧ BandV K H v lo hi ∧ HS.ins lo hi q.2.1 = true ∧ HS.DistN lo hi (m + 1) q e ∧ m ≤ 20 ∧
  ∀ H' p, Same H H' → H' p = some (.lst (nextL lo hi e m q HS.steps)) → Q (.ref p) H'
theorem ok_next (T : Txt K mg) (ck_distance : KFn P w K mg base 8 2 "distance" ["start", "end", "band"] (spDist K)) (c_to_band : Fn P w K mg base 4 "to_band" [] ["value"] (spToBand K)) (c_good_steps : Fn P w K mg base 9 "good_steps" [] ["state", "goal", "limits"] (spGood K))
    (F : FnP K "next_steps" s_next_steps [] [("band", .non)] f fd) : FnOk P w K mg base CX0 10 f fd ["state", "goal", "band"] (spNext K) := by
  refine F.ok sc_next_steps (fun vs H Q E h => ?_) (fun cdv A outer s H vs Q E hr h => ⟨_, PSs.nox (pss_cons (ps_expr (pe_callKF ck_distance (hr.mono (by decide)) (pa_cons (pv 0) (pa_cons (pv 1) pa_nil)) (pk_cons (pv 2) pk_nil))) (pss_one (ps_ret (pe_callF c_good_steps (hr.mono (by decide)) (pa_cons (pv 0) (pa_cons (pv 1) (pa_cons (pe_callF c_to_band (hr.mono (by decide)) (pa_cons (pv 2) pa_nil)) pa_nil))))))), ?_⟩)
  · obtain ⟨a, b, v, q, e, lo, hi, m, rfl, _⟩ := h
    rfl
  · obtain ⟨a, b, v, q, e, lo, hi, m, rfl, ha, hb, hv, i1, hD, hm, k⟩ := h
    have pth := (HS.distN_iff.mp hD).1
    refine ⟨_, rfl, _, rfl, _, rfl, rfl, rfl, a, b, v, q, e, lo, hi, m + 1, rfl, ha, hb, hv, i1, near_of pth (by omega), pth, fun d' H1 s1 _ => ?_⟩
    refine ⟨_, rfl, _, rfl, _, rfl, v, lo, hi, rfl, hv.mono s1, fun H2 l s2 hB => ?_⟩
    have s12 := s1.trans s2
    exact ⟨a, b, l, q, e, lo, hi, m, rfl, ha.mono s12, hb.mono s12, hB, i1, hD, hm, fun H' p s' hp => k H' p (s12.trans s') hp⟩
end
end Hs
set_option maxHeartbeats 4000000
namespace Hs
open PySem L2 HSR
/-! ### the law's own helpers: the pool of digits -/
def PoolH (H : Hp) (p : Addr) : Prop := ∃ u v : Int, H p = some (.lst [.int u, .int v]) ∧ 0 ≤ u ∧ 0 ≤ v ∧ v < 2147483647
/-- all but what stands at p is as it was -/
def But (p : Addr) (H H' : Hp) : Prop := ∀ c o, H c = some o → c ≠ p → H' c = some o
theorem But.refl (p : Addr) (H : Hp) : But p H H := fun _ _ h _ => h
theorem But.trans {p : Addr} {H H1 H2 : Hp} (a : But p H H1) (b : But p H1 H2) : But p H H2 := fun c o h n => b c o (a c o h n) n
theorem But.of {p : Addr} {H H' : Hp} (s : Same H H') : But p H H' := fun c o h _ => s c o h
theorem But.st {p a : Addr} {H H' : Hp} {q : HS.St} (b : But p H H') (hp : PoolH H p) (h : StH H a q) : StH H' a q := by
  obtain ⟨u, v, hl, _⟩ := hp
  exact b _ _ h (ne_of h hl (fun z => nomatch z))
theorem PoolH.mono {p : Addr} {H H' : Hp} (s : Same H H') (h : PoolH H p) : PoolH H' p := by
  obtain ⟨u, v, hl, r⟩ := h
  exact ⟨u, v, s _ _ hl, r⟩
theorem But.lst {p a : Addr} {H H' : Hp} {xs : List V} (b : But p H H') (n : a ≠ p) (h : H a = some (.lst xs)) : H' a = some (.lst xs) := b _ _ h n
section
variable {P : Program} {w : World} {K : PySem.W.Frag} {mg : Str → Option Value} {base : Heap} {f : Addr} {fd : FuncData}
/-! ### _law_take -/
abbrev s__law_take : Stmt := top 52
theorem sc__law_take : FnScope ["_law_pool_here", "_law_bound", "_law_digit"] ["_law_pool_here", "_law_bound"] (defScope s__law_take) := ⟨rfl, rfl, rfl, by decide +kernel, rfl, by decide +kernel, by decide +kernel⟩
def spTake : Sp := fun vs H Q _ => ∃ (p : Addr) (b : Int), vs = [.ref p, .int b] ∧ PoolH H p ∧ 0 < b ∧ b < 1073741824 ∧ ∀ r H', 0 ≤ r → r < b → But p H H' → PoolH H' p → Q (.int r) H'
theorem ok_take (T : Txt K mg) (F : FnP K "_law_take" s__law_take [] [] f fd) : FnOk P w K mg base CX0 1 f fd ["_law_pool_here", "_law_bound"] spTake := by
  refine F.ok sc__law_take (fun vs H Q E h => ?_) (fun cdv A outer s H vs Q E hr h => ⟨_, PSs.nox (pss_cons (ps_if (pt_cmpR op_gt (pe_ix ix_list (pv 0) pe_int (fun _ _ => rfl)) pe_int (nomark _)) (pss_cons (ps_set (i := 2) sc__law_take.nd rfl (Or.inl rfl) (pe_op op_mod (pe_ix ix_list (pv 0) pe_int (fun _ _ => rfl)) (pv 1))) (pss_cons (ps_asg (pe_op op_fdiv (pe_ix ix_list (pv 0) pe_int (fun _ _ => rfl)) (pv 1)) (pg_sub (pv 0) pe_int set_list)) (pss_one (ps_ret (pv 2))))) pss_nil) (pss_cons (ps_asg (pe_op op_mod (pe_op op_add (pe_op op_mul (pe_ix ix_list (pv 0) pe_int (fun _ _ => rfl)) pe_int) pe_int) pe_int) (pg_sub (pv 0) pe_int set_list)) (pss_one (ps_ret (pe_op op_mod (pe_op op_fdiv (pe_op op_mod (pe_op op_mul (pe_ix ix_list (pv 0) pe_int (fun _ _ => rfl)) (pe_ix ix_list (pv 0) pe_int (fun _ _ => rfl))) pe_int) pe_int) (pv 1)))))), ?_⟩)
  · obtain ⟨p, b, rfl, _⟩ := h
    rfl
  · obtain ⟨p, b, rfl, ⟨u, v, hp, hu, hv, hv2⟩, b0, b1, k⟩ := h
    have butU : ∀ o, But p H (upd H p o) := fun o c o' e n => by
      rw [upd_ne n]
      exact e
    refine ⟨_, rfl, _, _, _, _, rfl, rfl, SqL.of hp, atI_nat (j := 0) rfl, _, _, rfl, rfl, _, rfl, ?_⟩
    refine ite2 (fun c => ?_) (fun c => ?_)
    · refine ⟨_, rfl, _, _, _, _, rfl, rfl, SqL.of hp, atI_nat (j := 0) rfl, _, rfl, _, _, rfl, rfl, b0, ?_⟩
      refine ⟨_, rfl, _, _, _, _, rfl, rfl, SqL.of hp, atI_nat (j := 0) rfl, _, rfl, _, _, rfl, rfl, ⟨b0, b1⟩, ?_⟩
      refine ⟨_, rfl, p, _, _, 0, rfl, rfl, hp, rfl, ?_⟩
      refine ⟨_, rfl, ?_⟩
      exact k _ _ (Int.emod_nonneg _ (by omega)) (Int.emod_lt_of_pos _ b0) (butU _) ⟨u / b, v, upd_same, Int.ediv_nonneg hu (by omega), hv, hv2⟩
    · refine ⟨_, rfl, _, _, _, _, rfl, rfl, SqL.of hp, atI_nat (j := 1) rfl, _, _, rfl, rfl, .inr ⟨by decide, by decide⟩, _, _, rfl, rfl, _, _, rfl, rfl, by show (0 : Int) < 2147483647; decide, ?_⟩
      refine ⟨_, rfl, p, _, _, 1, rfl, rfl, hp, rfl, ?_⟩
      have r1 := Int.emod_nonneg (v * 48271 + 11) (show (2147483647 : Int) ≠ 0 by decide)
      have r2 := Int.emod_lt_of_pos (v * 48271 + 11) (show (0 : Int) < 2147483647 by decide)
      generalize hz : (v * 48271 + 11) % 2147483647 = z at r1 r2
      have hp2 : (upd H p (.lst [.int u, .int z])) p = some (.lst [.int u, .int z]) := upd_same
      have hset : ([V.int u, V.int v].set 1 ((fun i j : Int => V.int (i % j)) (v * 48271 + 11) 2147483647)) = [V.int u, V.int z] := by
        rw [← hz]
        rfl
      rw [hset]
      refine ⟨_, rfl, p, _, _, _, rfl, rfl, SqL.of hp2, atI_nat (j := 1) rfl, _, rfl, p, _, _, _, rfl, rfl, SqL.of hp2, atI_nat (j := 1) rfl, _, _, rfl, rfl, .inl ⟨by omega, by omega⟩, _, _, rfl, rfl, by show (0 : Int) < 2147483629; decide, _, _, rfl, rfl, ⟨by decide, by decide⟩, _, rfl, _, _, rfl, rfl, b0, ?_⟩
      exact k _ _ (Int.emod_nonneg _ (by omega)) (Int.emod_lt_of_pos _ b0) (butU _) ⟨u, z, upd_same, hu, r1, r2⟩
/-! ### _law_pool -/
abbrev s__law_pool : Stmt := top 51
theorem sc__law_pool : FnScope ["_law_script", "_law_k", "_law_cell", "_law_seed"] ["_law_script", "_law_k"] (defScope s__law_pool) := ⟨rfl, rfl, rfl, by decide +kernel, rfl, by decide +kernel, by decide +kernel⟩
theorem shaped_of (ns : List Int) : SeqAt.shaped (.list (ns.map PyData.int)) = true := by
  have h1 : PyData.canLayAll0 (ns.map PyData.int) = true := by
    induction ns with
    | nil => rfl
    | cons a r ih => simp only [List.map_cons, PyData.canLayAll0, PyData.canLay0, ih, Bool.and_self]
  have h2 : PyData.depthAll (ns.map PyData.int) = 0 := by
    induction ns with
    | nil => rfl
    | cons a r ih => 
      have h1' : PyData.canLayAll0 (r.map PyData.int) = true := by
        simp only [List.map_cons, PyData.canLayAll0, PyData.canLay0, Bool.true_and] at h1
        exact h1
      simp only [List.map_cons, PyData.depthAll, PyData.depth, ih h1', Nat.max_self]
  unfold SeqAt.shaped
  simp only [PyData.canLay0, PyData.depth, h1, h2, Bool.true_and]
  decide
theorem dpAll_ints {H : Hp} : ∀ ns : List Int, DpAll K H (ns.map V.int) (ns.map PyData.int)
  | [] => .nil
  | n :: ns => .cons (.int n) (dpAll_ints ns)
def spPool (K : PySem.W.Frag) : Sp := fun vs H Q _ => ∃ (a : Addr) (ns : List Int) (j : Int), vs = [.ref a, .int j] ∧ SqL K H a (ns.map V.int) ∧ 0 ≤ j ∧ ∀ H' p, Same H H' → H p = none → PoolH H' p → Q (.ref p) H'
theorem ok_pool (T : Txt K mg) (F : FnP K "_law_pool" s__law_pool [] [] f fd) : FnOk P w K mg base CX0 1 f fd ["_law_script", "_law_k"] (spPool K) := by
  refine F.ok sc__law_pool (fun vs H Q E h => ?_) (fun cdv A outer s H vs Q E hr h => ⟨_, PSs.nox (pss_cons (ps_set (i := 2) sc__law_pool.nd rfl (Or.inl rfl) pe_int) (pss_cons (ps_if (pt_cmpR (op_neD hr.units) (pv 0) (pe_lst pa_nil) (nomark _)) (pss_one (ps_set (i := 2) sc__law_pool.nd rfl (Or.inl rfl) (pe_ix ix_list (pv 0) (pe_op op_mod (pv 1) (pe_callB call_len_seq (by rfl) T.len_ (by decide +kernel) (pa_cons (pv 0) pa_nil))) (fun _ _ => rfl)))) pss_nil) (pss_cons (ps_if (pt_cmpR op_ge (pv 1) (pe_callB call_len_seq (by rfl) T.len_ (by decide +kernel) (pa_cons (pv 0) pa_nil)) (nomark _)) (pss_one (ps_set (i := 2) sc__law_pool.nd rfl (Or.inl rfl) (pe_op op_mod (pv 2) pe_int))) pss_nil) (pss_cons (ps_set (i := 3) sc__law_pool.nd rfl (Or.inl rfl) (pe_op op_mod (pe_op op_mul (pe_op op_add (pe_op op_add (pe_op op_mod (pv 2) pe_int) (pe_op op_mul pe_int (pv 1))) pe_int) pe_int) pe_int)) (pss_one (ps_ret (pe_lst (pa_cons (pe_op op_mul (pv 2) (pe_callTy call_int1 (by rfl) T.int_ (by decide +kernel) (pa_cons (pe_cmpR op_ge (pv 2) (pe_op op_pow pe_int pe_int) (nomark _)) pa_nil))) (pa_cons (pv 3) pa_nil))))))))), ?_⟩)
  · obtain ⟨a, ns, j, rfl, _⟩ := h
    rfl
  · obtain ⟨a, ns, j, rfl, hS, hj, k⟩ := h
    -- behind the choice of the cell
    have rest : ∀ (z : Int) {D : Ends} (H1 : Hp), D.rt = Q → Same H H1 → 
      tSeq (tIfS (tTest (tOp (rI0 fun i j => .bl (decide (j ≤ i))) (tVar 1) (tCB (fun xs H Q => ∃ p ys, xs = [V.ref p] ∧ (SqL K H p ys ∨ SqT K H p ys) ∧ Q (.int ys.length) H) (tCons (tVar 0) tNil)))) (tAsg (tOp (rI (fun _ j => 0 < j) fun i j => .int (i % j)) (tVar 2) (tC (.int 1000003))) (gName 2)) tNext)
        (tSeq (tAsg (tOp (rI (fun _ j => 0 < j) fun i j => .int (i % j)) (tOp (rI CMul fun i j => .int (i * j)) (tOp (rI0 fun i j => .int (i + j)) (tOp (rI0 fun i j => .int (i + j)) (tOp (rI (fun _ j => 0 < j) fun i j => .int (i % j)) (tVar 2) (tC (.int 2147483629))) (tOp (rI CMul fun i j => .int (i * j)) (tC (.int 104729)) (tVar 1))) (tC (.int 11))) (tC (.int 48271))) (tC (.int 2147483647))) (gName 3))
          (tRet (tLst (tCons (tOp (rI CMul fun i j => .int (i * j)) (tVar 2) (tCB (fun xs H Q => (∃ i, xs = [V.int i] ∧ Q (.int i) H) ∨ ∃ k, xs = [V.bl k] ∧ Q (.int (if k then 1 else 0)) H) (tCons (tOp (rI0 fun i j => .bl (decide (j ≤ i))) (tVar 2) (tOp (rI CPow fun i j => .int (i ^ j.toNat)) (tC (.int 10)) (tC (.int 18)))) tNil))) (tCons (tVar 3) tNil)))))
        D [some (.ref a), some (.int j), some (.int z), none] H1 := by
      intro z D H1 eD s1
      have last : ∀ (z : Int), (tSeq (tAsg (tOp (rI (fun _ j => 0 < j) fun i j => .int (i % j)) (tOp (rI CMul fun i j => .int (i * j)) (tOp (rI0 fun i j => .int (i + j)) (tOp (rI0 fun i j => .int (i + j)) (tOp (rI (fun _ j => 0 < j) fun i j => .int (i % j)) (tVar 2) (tC (.int 2147483629))) (tOp (rI CMul fun i j => .int (i * j)) (tC (.int 104729)) (tVar 1))) (tC (.int 11))) (tC (.int 48271))) (tC (.int 2147483647))) (gName 3))
          (tRet (tLst (tCons (tOp (rI CMul fun i j => .int (i * j)) (tVar 2) (tCB (fun xs H Q => (∃ i, xs = [V.int i] ∧ Q (.int i) H) ∨ ∃ k, xs = [V.bl k] ∧ Q (.int (if k then 1 else 0)) H) (tCons (tOp (rI0 fun i j => .bl (decide (j ≤ i))) (tVar 2) (tOp (rI CPow fun i j => .int (i ^ j.toNat)) (tC (.int 10)) (tC (.int 18)))) tNil))) (tCons (tVar 3) tNil)))))
        D [some (.ref a), some (.int j), some (.int z), none] H1 := by
        intro z
        refine ⟨_, rfl, _, _, rfl, rfl, by show (0 : Int) < 2147483629; decide, _, rfl, _, _, rfl, rfl, .inl ⟨by decide, by decide⟩, _, _, rfl, rfl, _, _, rfl, rfl, _, _, rfl, rfl, .inr ⟨by decide, by decide⟩, _, _, rfl, rfl, by show (0 : Int) < 2147483647; decide, ?_⟩
        refine ⟨_, rfl, _, rfl, _, _, rfl, rfl, ⟨by decide, by decide, by decide⟩, _, _, rfl, rfl, .inr ⟨_, rfl, ?_⟩⟩
        refine ⟨_, _, rfl, rfl, ?_, ?_⟩
        · refine .inr ?_
          split <;> exact ⟨by decide, by decide⟩
        refine ⟨_, rfl, by show 2 ≤ sizeLine; decide, fun p np => ?_⟩
        rw [eD]
        refine k _ p (s1.trans (same_new np)) (s1.free np) ⟨_, _, upd_same, ?_, Int.emod_nonneg _ (by decide), Int.emod_lt_of_pos _ (by decide)⟩
        by_cases c : (10 : Int) ^ (18 : Int).toNat ≤ z
        · have e1 : decide ((10 : Int) ^ (18 : Int).toNat ≤ z) = true := decide_eq_true c
          rw [e1]
          have c0 : (0 : Int) ≤ 10 ^ (18 : Int).toNat := by decide
          simp only [if_true]
          omega
        · have e1 : decide ((10 : Int) ^ (18 : Int).toNat ≤ z) = false := decide_eq_false c
          rw [e1]
          simp
      refine ⟨_, rfl, _, rfl, a, _, rfl, .inl (s1.seq hS), _, _, rfl, rfl, _, rfl, ?_⟩
      refine ite2 (fun _ => ?_) (fun _ => ?_)
      · refine ⟨_, rfl, _, _, rfl, rfl, by show (0 : Int) < 1000003; decide, ?_⟩
        exact last _
      · exact last z
    refine ⟨_, rfl, Nat.zero_le _, fun p np => ?_⟩
    have s1 := same_new (o := .lst []) np
    refine ⟨_, _, .lst (s1.seq hS) (dpAll_ints ns), .lst (SqL.of upd_same) .nil, shaped_of ns, shaped_of [], _, rfl, ?_⟩
    cases ns with
    | nil => exact rest 0 _ rfl s1
    | cons n r =>
      refine ⟨_, rfl, _, rfl, _, rfl, a, _, rfl, .inl (s1.seq hS), _, _, rfl, rfl, ?_, ?_⟩
      · show (0 : Int) < (((n :: r).map V.int).length : Nat)
        rw [List.length_map, List.length_cons]
        omega
      have len : (((n :: r).map V.int).length : Nat) = r.length + 1 := by rw [List.length_map, List.length_cons]
      have m1 := Int.emod_nonneg j (show ((((n :: r).map V.int).length : Nat) : Int) ≠ 0 by rw [len]; omega)
      have m2 := Int.emod_lt_of_pos j (show (0 : Int) < (((n :: r).map V.int).length : Nat) by rw [len]; omega)
      obtain ⟨i, hi⟩ : ∃ i : Nat, j % (((n :: r).map V.int).length : Nat) = (i : Int) := ⟨_, (Int.toNat_of_nonneg m1).symm⟩
      have hil : i < (n :: r).length := by
        rw [hi, len] at m2
        rw [List.length_cons]
        omega
      refine ⟨a, _, _, _, rfl, rfl, s1.seq hS, at_of hi (j := i) (v := V.int ((n :: r)[i])) (by rw [List.getElem?_map, List.getElem?_eq_getElem hil]; rfl), ?_⟩
      exact rest _ _ rfl s1
/-! ### _law_integer -/
abbrev s__law_integer : Stmt := top 53
theorem sc__law_integer : FnScope ["_law_pool_here", "_law_way"] ["_law_pool_here"] (defScope s__law_integer) := ⟨rfl, rfl, rfl, by decide +kernel, rfl, by decide +kernel, by decide +kernel⟩
def spInteger : Sp := fun vs H Q _ => ∃ p : Addr, vs = [.ref p] ∧ PoolH H p ∧ ∀ z H', But p H H' → PoolH H' p → Q (.int z) H'
theorem PoolH.ne {p a : Addr} {H : Hp} (h : PoolH H p) (n : H a = none) : a ≠ p := by
  obtain ⟨_, _, hl, _⟩ := h
  exact (ne_of_none hl n).symm
theorem ok_integer (T : Txt K mg) (c__law_take : Fn P w K mg base 1 "_law_take" [] ["_law_pool_here", "_law_bound"] spTake) (F : FnP K "_law_integer" s__law_integer [] [] f fd) : FnOk P w K mg base CX0 2 f fd ["_law_pool_here"] spInteger := by
  refine F.ok sc__law_integer (fun vs H Q E h => ?_) (fun cdv A outer s H vs Q E hr h => ⟨_, PSs.nox (pss_cons (ps_set (i := 1) sc__law_integer.nd rfl (Or.inl rfl) (pe_callF c__law_take (hr.mono (by decide)) (pa_cons (pv 0) (pa_cons pe_int pa_nil)))) (pss_cons (ps_if (pt_cmpR op_lt (pv 1) pe_int (nomark _)) (pss_one (ps_ret (pe_op op_sub (pe_callF c__law_take (hr.mono (by decide)) (pa_cons (pv 0) (pa_cons pe_int pa_nil))) pe_int))) pss_nil) (pss_cons (ps_if (pt_cmpR op_eq (pv 1) pe_int (nomark _)) (pss_one (ps_ret (pe_op op_sub (pe_callF c__law_take (hr.mono (by decide)) (pa_cons (pv 0) (pa_cons pe_int pa_nil))) pe_int))) pss_nil) (pss_one (ps_ret (pe_op op_mul (pe_op op_add (pe_op op_mul (pe_callF c__law_take (hr.mono (by decide)) (pa_cons (pv 0) (pa_cons (pe_op op_pow pe_int pe_int) pa_nil))) (pe_op op_pow pe_int pe_int)) (pe_callF c__law_take (hr.mono (by decide)) (pa_cons (pv 0) (pa_cons (pe_op op_pow pe_int pe_int) pa_nil)))) (pe_ix ix_list (pe_lst (pa_cons pe_int (pa_cons (pe_un un_neg pe_int) pa_nil))) (pe_callF c__law_take (hr.mono (by decide)) (pa_cons (pv 0) (pa_cons pe_int pa_nil))) (fun _ _ => rfl)))))))), ?_⟩)
  · obtain ⟨p, rfl, _⟩ := h
    rfl
  · obtain ⟨p, rfl, hp, k⟩ := h
    refine ⟨_, rfl, p, 4, rfl, hp, by decide, by decide, fun r H1 r0 r1 b1 hp1 => ?_⟩
    refine ⟨_, rfl, _, _, rfl, rfl, _, rfl, ?_⟩
    refine ite2 (fun _ => ?_) (fun _ => ?_)
    · refine ⟨_, rfl, p, 13, rfl, hp1, by decide, by decide, fun r H2 _ _ b2 hp2 => ?_⟩
      exact ⟨_, _, rfl, rfl, k _ H2 (b1.trans b2) hp2⟩
    · refine ⟨_, rfl, rfl, _, rfl, ?_⟩
      refine ite2 (fun _ => ?_) (fun _ => ?_)
      · refine ⟨_, rfl, p, 2001, rfl, hp1, by decide, by decide, fun r H2 _ _ b2 hp2 => ?_⟩
        exact ⟨_, _, rfl, rfl, k _ H2 (b1.trans b2) hp2⟩
      · refine ⟨_, rfl, _, _, rfl, rfl, ⟨by decide, by decide, by decide⟩, p, _, rfl, hp1, by decide, by decide, fun r H2 q0 q1 b2 hp2 => ?_⟩
        have q1' : r < 1000000 := q1
        refine ⟨_, _, rfl, rfl, ⟨by decide, by decide, by decide⟩, _, _, rfl, rfl, .inl ⟨by omega, by omega⟩, ?_⟩
        refine ⟨_, rfl, _, _, rfl, rfl, ⟨by decide, by decide, by decide⟩, p, _, rfl, hp2, by decide, by decide, fun r2 H3 _ _ b3 hp3 => ?_⟩
        refine ⟨_, _, rfl, rfl, ?_⟩
        refine ⟨_, rfl, by show 2 ≤ sizeLine; decide, fun l nl => ?_⟩
        have nlp := hp3.ne nl
        have s4 := same_new (o := .lst [.int 1, .int (-1)]) nl
        refine ⟨_, rfl, p, 2, rfl, hp3.mono s4, by decide, by decide, fun r3 H5 c0 c1 b5 hp5 => ?_⟩
        have hl5 := b5 l _ upd_same nlp
        have fin : ∀ y : Int, ((-(2 ^ 64) < y ∧ y < 2 ^ 64) ∧ True) → Q (.int ((r * 10 ^ (18 : Int).toNat + r2) * y)) H5 := fun y _ => k _ H5 ((((b1.trans b2).trans b3).trans (But.of s4)).trans b5) hp5
        have c : r3 = 0 ∨ r3 = 1 := by omega
        rcases c with rfl | rfl
        · refine ⟨l, _, _, _, rfl, rfl, SqL.of hl5, atI_nat (j := 0) rfl, _, _, rfl, rfl, .inr ⟨by decide, by decide⟩, ?_⟩
          exact fin 1 ⟨⟨by decide, by decide⟩, trivial⟩
        · refine ⟨l, _, _, _, rfl, rfl, SqL.of hl5, atI_nat (j := 1) rfl, _, _, rfl, rfl, .inr ⟨by decide, by decide⟩, ?_⟩
          exact fin (-1) ⟨⟨by decide, by decide⟩, trivial⟩
end
end Hs
set_option maxHeartbeats 4000000
namespace Hs
open PySem L2 HSR
def EndsH (H : Hp) (a : Addr) (lo hi : Option Int) : Prop := H a = some (.tup [oV lo, oV hi])
theorem EndsH.mono {H H' : Hp} {a : Addr} {lo hi : Option Int} (s : Same H H') (h : EndsH H a lo hi) : EndsH H' a lo hi := s _ _ h
theorem EndsH.but {p a : Addr} {H H' : Hp} {lo hi : Option Int} (b : But p H H') (hp : PoolH H p) (h : EndsH H a lo hi) : EndsH H' a lo hi := by
  obtain ⟨u, v, hl, _⟩ := hp
  exact b _ _ h (ne_of h hl (fun z => nomatch z))
theorem BandH.but {K : PySem.W.Frag} {p a : Addr} {H H' : Hp} {lo hi : Option Int} (b : But p H H') (hp : PoolH H p) (h : BandH K H a lo hi) : BandH K H' a lo hi := by
  obtain ⟨u, v, hl, _⟩ := hp
  obtain ⟨dx, h⟩ := h
  exact ⟨dx, b _ _ h (ne_of h hl (fun z => nomatch z))⟩
section
variable {P : Program} {w : World} {K : PySem.W.Frag} {mg : Str → Option Value} {base : Heap} {f : Addr} {fd : FuncData}
/-! ### _law_inside -/
abbrev s__law_inside : Stmt := top 55
theorem sc__law_inside : FnScope ["_law_ends_here", "_law_level"] ["_law_ends_here", "_law_level"] (defScope s__law_inside) := ⟨rfl, rfl, rfl, by decide +kernel, rfl, by decide +kernel, by decide +kernel⟩
def spInside : Sp := fun vs H Q _ => ∃ (a : Addr) (lo hi : Option Int) (h : Int), vs = [.ref a, .int h] ∧ EndsH H a lo hi ∧ Q (.bl (HS.ins lo hi h)) H
theorem ok_inside (T : Txt K mg) (F : FnP K "_law_inside" s__law_inside [] [] f fd) : FnOk P w K mg base CX0 1 f fd ["_law_ends_here", "_law_level"] spInside := by
  refine F.ok sc__law_inside (fun vs H Q E h => ?_) (fun cdv A outer s H vs Q E hr h => ⟨_, PSs.nox (pss_one (ps_ret (pe_and (pe_or (pe_cmpR op_isN (pe_ix ix_tup (pv 0) pe_int (fun _ _ => rfl)) pe_non (nomark _)) (pe_one (pe_cmpR op_le (pe_ix ix_tup (pv 0) pe_int (fun _ _ => rfl)) (pv 1) (nomark _)))) (pe_one (pe_or (pe_cmpR op_isN (pe_ix ix_tup (pv 0) pe_int (fun _ _ => rfl)) pe_non (nomark _)) (pe_one (pe_cmpR op_le (pv 1) (pe_ix ix_tup (pv 0) pe_int (fun _ _ => rfl)) (nomark _)))))))), ?_⟩)
  · obtain ⟨a, lo, hi, h, rfl, _⟩ := h
    rfl
  · obtain ⟨a, lo, hi, h, rfl, ha, k⟩ := h
    cases lo with
    | none =>
      refine ⟨_, rfl, a, _, _, _, rfl, rfl, SqT.of ha, atI_nat (j := 0) rfl, rfl, true, rfl, true, rfl, ?_⟩
      cases hi with
      | none => exact ⟨_, rfl, a, _, _, _, rfl, rfl, SqT.of ha, atI_nat (j := 1) rfl, rfl, true, rfl, k⟩
      | some u =>
        refine ⟨_, rfl, a, _, _, _, rfl, rfl, SqT.of ha, atI_nat (j := 1) rfl, rfl, false, rfl, ?_⟩
        exact ⟨_, rfl, _, rfl, a, _, _, _, rfl, rfl, SqT.of ha, atI_nat (j := 1) rfl, _, _, rfl, rfl, k⟩
    | some l =>
      refine ⟨_, rfl, a, _, _, _, rfl, rfl, SqT.of ha, atI_nat (j := 0) rfl, rfl, false, rfl, ?_⟩
      refine ⟨_, rfl, a, _, _, _, rfl, rfl, SqT.of ha, atI_nat (j := 0) rfl, _, rfl, _, _, rfl, rfl, _, rfl, ?_⟩
      have e : HS.ins (some l) hi h = (decide (l ≤ h) && HS.inH hi h) := rfl
      rw [e] at k
      by_cases c : l ≤ h
      · rw [decide_eq_true c, Bool.true_and] at k
        rw [decide_eq_true c]
        cases hi with
        | none => exact ⟨_, rfl, a, _, _, _, rfl, rfl, SqT.of ha, atI_nat (j := 1) rfl, rfl, true, rfl, k⟩
        | some u =>
          refine ⟨_, rfl, a, _, _, _, rfl, rfl, SqT.of ha, atI_nat (j := 1) rfl, rfl, false, rfl, ?_⟩
          exact ⟨_, rfl, _, rfl, a, _, _, _, rfl, rfl, SqT.of ha, atI_nat (j := 1) rfl, _, _, rfl, rfl, k⟩
      · rw [decide_eq_false c, Bool.false_and] at k
        rw [decide_eq_false c]
        exact k
/-! ### _law_after -/
abbrev s__law_after : Stmt := top 56
theorem sc__law_after : FnScope ["_law_state", "_law_step", "_law_x", "_law_h", "_law_s"] ["_law_state", "_law_step"] (defScope s__law_after) := ⟨rfl, rfl, rfl, by decide +kernel, rfl, by decide +kernel, by decide +kernel⟩
theorem ok_law_after (T : Txt K mg) (F : FnP K "_law_after" s__law_after [] [] f fd) : FnOk P w K mg base CX0 1 f fd ["_law_state", "_law_step"] spAfter := by
  refine F.ok sc__law_after (fun vs H Q E h => ?_) (fun cdv A outer s H vs Q E hr h => ⟨_, PSs.nox (pss_cons (ps_asg (pv 0) (pg_tup rfl (pgs_cons (pg_name (i := 2) sc__law_after.nd rfl (Or.inl rfl)) (pgs_cons (pg_name (i := 3) sc__law_after.nd rfl (Or.inl rfl)) (pgs_cons (pg_name (i := 4) sc__law_after.nd rfl (Or.inl rfl)) pgs_nil))))) (pss_cons (ps_if (pt_cmpR op_eq (pv 1) pe_str (nomark _)) (pss_one (ps_ret (pe_tup (pa_cons (pe_op op_add (pv 2) pe_int) (pa_cons (pv 3) (pa_cons (pe_op op_add (pv 4) (pv 3)) pa_nil)))))) pss_nil) (pss_cons (ps_if (pt_cmpR op_eq (pv 1) pe_str (nomark _)) (pss_one (ps_ret (pe_tup (pa_cons (pe_op op_sub (pv 2) pe_int) (pa_cons (pv 3) (pa_cons (pe_op op_sub (pv 4) (pv 3)) pa_nil)))))) pss_nil) (pss_one (ps_ret (pe_tup (pa_cons (pv 2) (pa_cons (pe_op op_sub (pe_op op_add (pv 3) (pe_callTy call_int1 (by rfl) T.int_ (by decide +kernel) (pa_cons (pe_cmpR op_eq (pv 1) pe_str (nomark _)) pa_nil))) (pe_callTy call_int1 (by rfl) T.int_ (by decide +kernel) (pa_cons (pe_cmpR op_eq (pv 1) pe_str (nomark _)) pa_nil))) (pa_cons (pv 4) pa_nil))))))))), ?_⟩)
  · obtain ⟨a, q, c, rfl, _⟩ := h
    rfl
  · obtain ⟨a, q, c, rfl, ha, k⟩ := h
    refine ⟨_, rfl, a, _, rfl, SqT.of ha, rfl, _, _, rfl, _, _, rfl, _, _, rfl, rfl, ?_⟩
    cases c with
    | E =>
      refine ⟨_, rfl, rfl, _, rfl, ?_⟩
      refine ite2 (fun _ => ?_) (fun z => absurd (by decide +kernel) z)
      refine ⟨_, rfl, _, _, rfl, rfl, _, rfl, _, rfl, _, rfl, _, _, rfl, rfl, by show 3 ≤ sizeLine; decide, fun p np => ?_⟩
      exact k _ p (same_new np) upd_same
    | W =>
      refine ⟨_, rfl, rfl, _, rfl, ?_⟩
      refine ite2 (fun z => absurd z (by decide +kernel)) (fun _ => ?_)
      refine ⟨_, rfl, rfl, _, rfl, ?_⟩
      refine ite2 (fun _ => ?_) (fun z => absurd (by decide +kernel) z)
      refine ⟨_, rfl, _, _, rfl, rfl, _, rfl, _, rfl, _, rfl, _, _, rfl, rfl, by show 3 ≤ sizeLine; decide, fun p np => ?_⟩
      exact k _ p (same_new np) upd_same
    | U =>
      refine ⟨_, rfl, rfl, _, rfl, ?_⟩
      refine ite2 (fun z => absurd z (by decide +kernel)) (fun _ => ?_)
      refine ⟨_, rfl, rfl, _, rfl, ?_⟩
      refine ite2 (fun z => absurd z (by decide +kernel)) (fun _ => ?_)
      have d1 : decide (V.str (nm .U) = V.str (PySem.Str.ofString "U")) = true := by decide +kernel
      have d2 : decide (V.str (nm .U) = V.str (PySem.Str.ofString "D")) = false := by decide +kernel
      refine ⟨_, rfl, _, rfl, _, rfl, rfl, .inr ⟨_, rfl, ?_⟩⟩
      rw [d1]
      refine ⟨_, _, rfl, rfl, _, rfl, rfl, .inr ⟨_, rfl, ?_⟩⟩
      rw [d2]
      refine ⟨_, _, rfl, rfl, _, rfl, by show 3 ≤ sizeLine; decide, fun p np => ?_⟩
      refine k _ p (same_new np) ?_
      show (upd _ p _) p = _
      rw [upd_same]
      show some (HO.tup [.int q.1, .int (q.2.1 + 1 - 0), .int q.2.2]) = some (HO.tup [.int q.1, .int (q.2.1 + 1), .int q.2.2])
      rw [Int.sub_zero]
    | D =>
      refine ⟨_, rfl, rfl, _, rfl, ?_⟩
      refine ite2 (fun z => absurd z (by decide +kernel)) (fun _ => ?_)
      refine ⟨_, rfl, rfl, _, rfl, ?_⟩
      refine ite2 (fun z => absurd z (by decide +kernel)) (fun _ => ?_)
      have d1 : decide (V.str (nm .D) = V.str (PySem.Str.ofString "U")) = false := by decide +kernel
      have d2 : decide (V.str (nm .D) = V.str (PySem.Str.ofString "D")) = true := by decide +kernel
      refine ⟨_, rfl, _, rfl, _, rfl, rfl, .inr ⟨_, rfl, ?_⟩⟩
      rw [d1]
      refine ⟨_, _, rfl, rfl, _, rfl, rfl, .inr ⟨_, rfl, ?_⟩⟩
      rw [d2]
      refine ⟨_, _, rfl, rfl, _, rfl, by show 3 ≤ sizeLine; decide, fun p np => ?_⟩
      refine k _ p (same_new np) ?_
      show (upd _ p _) p = _
      rw [upd_same]
      show some (HO.tup [.int q.1, .int (q.2.1 + 0 - 1), .int q.2.2]) = some (HO.tup [.int q.1, .int (q.2.1 - 1), .int q.2.2])
      rw [Int.add_zero]
/-! ### _law_ends -/
abbrev s__law_ends : Stmt := top 54
theorem sc__law_ends : FnScope ["_law_pool_here", "_law_low", "_law_high", "_law_below", "_law_above", "_law_way"] ["_law_pool_here", "_law_low", "_law_high"] (defScope s__law_ends) := ⟨rfl, rfl, rfl, by decide +kernel, rfl, by decide +kernel, by decide +kernel⟩
def spEnds : Sp := fun vs H Q _ => ∃ (p : Addr) (h u : Int), vs = [.ref p, .int h, .int u] ∧ PoolH H p ∧ ∀ lo hi H' t, (∀ l, lo = some l → l ≤ h) → (∀ l, hi = some l → u ≤ l) → But p H H' → PoolH H' p → EndsH H' t lo hi → Q (.ref t) H'
/-- one of [0, 1, r, 10 ** 22] -/
theorem four_at {r i : Int} {xs : List V} (hx : xs = [V.int 0, V.int 1, V.int r, V.int (10 ^ (22 : Int).toNat)]) (r0 : 0 ≤ r) (h0 : 0 ≤ i) (h4 : i < 4) : ∃ z : Int, 0 ≤ z ∧ atI xs i = some (V.int z) := by
  subst hx
  have c : i = 0 ∨ i = 1 ∨ i = 2 ∨ i = 3 := by omega
  rcases c with rfl | rfl | rfl | rfl
  · exact ⟨0, by decide, atI_nat (j := 0) rfl⟩
  · exact ⟨1, by decide, atI_nat (j := 1) rfl⟩
  · exact ⟨r, r0, atI_nat (j := 2) rfl⟩
  · exact ⟨_, by decide, atI_nat (j := 3) rfl⟩
theorem ok_ends (T : Txt K mg) (c__law_take : Fn P w K mg base 1 "_law_take" [] ["_law_pool_here", "_law_bound"] spTake) (F : FnP K "_law_ends" s__law_ends [] [] f fd) : FnOk P w K mg base CX0 2 f fd ["_law_pool_here", "_law_low", "_law_high"] spEnds := by
  refine F.ok sc__law_ends (fun vs H Q E h => ?_) (fun cdv A outer s H vs Q E hr h => ⟨_, PSs.nox (pss_cons (ps_set (i := 3) sc__law_ends.nd rfl (Or.inl rfl) (pe_ix ix_list (pe_lst (pa_cons pe_int (pa_cons pe_int (pa_cons (pe_callF c__law_take (hr.mono (by decide)) (pa_cons (pv 0) (pa_cons pe_int pa_nil))) (pa_cons (pe_op op_pow pe_int pe_int) pa_nil))))) (pe_callF c__law_take (hr.mono (by decide)) (pa_cons (pv 0) (pa_cons pe_int pa_nil))) (fun _ _ => rfl))) (pss_cons (ps_set (i := 4) sc__law_ends.nd rfl (Or.inl rfl) (pe_ix ix_list (pe_lst (pa_cons pe_int (pa_cons pe_int (pa_cons (pe_callF c__law_take (hr.mono (by decide)) (pa_cons (pv 0) (pa_cons pe_int pa_nil))) (pa_cons (pe_op op_pow pe_int pe_int) pa_nil))))) (pe_callF c__law_take (hr.mono (by decide)) (pa_cons (pv 0) (pa_cons pe_int pa_nil))) (fun _ _ => rfl))) (pss_cons (ps_set (i := 5) sc__law_ends.nd rfl (Or.inl rfl) (pe_callF c__law_take (hr.mono (by decide)) (pa_cons (pv 0) (pa_cons pe_int pa_nil)))) (pss_one (ps_ret (pe_tup (pa_cons (pe_ix ix_list (pe_lst (pa_cons (pe_op op_sub (pv 1) (pv 3)) (pa_cons pe_non pa_nil))) (pe_callTy call_int1 (by rfl) T.int_ (by decide +kernel) (pa_cons (pe_cmpR op_in_seq (pv 5) (pe_lst (pa_cons pe_int (pa_cons pe_int pa_nil))) (by rfl)) pa_nil)) (fun _ _ => rfl)) (pa_cons (pe_ix ix_list (pe_lst (pa_cons (pe_op op_add (pv 2) (pv 4)) (pa_cons pe_non pa_nil))) (pe_callTy call_int1 (by rfl) T.int_ (by decide +kernel) (pa_cons (pe_cmpR op_in_seq (pv 5) (pe_lst (pa_cons pe_int (pa_cons pe_int pa_nil))) (by rfl)) pa_nil)) (fun _ _ => rfl)) pa_nil)))))))), ?_⟩)
  · obtain ⟨p, h, u, rfl, _⟩ := h
    rfl
  · obtain ⟨p, h, u, rfl, hp, k⟩ := h
    -- below
    refine ⟨_, rfl, p, 5, rfl, hp, by decide, by decide, fun r1 H1 a0 a1 b1 hp1 => ?_⟩
    refine ⟨_, _, rfl, rfl, ⟨by decide, by decide, by decide⟩, by show 4 ≤ sizeLine; decide, fun l1 nl1 => ?_⟩
    have n1 := hp1.ne nl1
    refine ⟨_, rfl, p, 4, rfl, hp1.mono (same_new nl1), by decide, by decide, fun i1 H2 c0 c1 b2 hp2 => ?_⟩
    obtain ⟨z1, z1p, at1⟩ := four_at (r := r1) (i := i1) rfl a0 c0 c1
    refine ⟨l1, _, _, _, rfl, rfl, SqL.of (b2 l1 _ upd_same n1), at1, ?_⟩
    have b12 : But p H H2 := (b1.trans (But.of (same_new nl1))).trans b2
    -- above
    refine ⟨_, rfl, p, 5, rfl, hp2, by decide, by decide, fun r2 H3 a2 a3 b3 hp3 => ?_⟩
    refine ⟨_, _, rfl, rfl, ⟨by decide, by decide, by decide⟩, by show 4 ≤ sizeLine; decide, fun l2 nl2 => ?_⟩
    have n2 := hp3.ne nl2
    refine ⟨_, rfl, p, 4, rfl, hp3.mono (same_new nl2), by decide, by decide, fun i2 H4 c2 c3 b4 hp4 => ?_⟩
    obtain ⟨z2, z2p, at2⟩ := four_at (r := r2) (i := i2) rfl a2 c2 c3
    refine ⟨l2, _, _, _, rfl, rfl, SqL.of (b4 l2 _ upd_same n2), at2, ?_⟩
    have b14 : But p H H4 := ((b12.trans b3).trans (But.of (same_new nl2))).trans b4
    -- way
    refine ⟨_, rfl, p, 6, rfl, hp4, by decide, by decide, fun y H5 y0 y1 b5 hp5 => ?_⟩
    have b15 := b14.trans b5
    -- the low end
    have two : ∀ (b : Bool) (x : V), ∃ v : V, atI [x, V.non] (if b = true then (1 : Int) else 0) = some v ∧ (v = x ∨ v = .non) := by
      intro b x
      cases b with
      | true => exact ⟨.non, atI_nat (j := 1) rfl, .inr rfl⟩
      | false => exact ⟨x, atI_nat (j := 0) rfl, .inl rfl⟩
    refine ⟨_, rfl, _, rfl, _, _, rfl, rfl, by show 2 ≤ sizeLine; decide, fun l3 nl3 => ?_⟩
    refine ⟨_, rfl, by show 2 ≤ sizeLine; decide, fun l4 nl4 => ?_⟩
    refine ⟨l4, _, rfl, .inl (SqL.of upd_same), rfl, rfl, .inr ⟨_, rfl, ?_⟩⟩
    obtain ⟨v1, e1, d1⟩ := two (inV (V.int y) [V.int 1, V.int 3]) (V.int (h - z1))
    have k3 : ∀ o, (upd (upd H5 l3 (.lst [V.int (h - z1), V.non])) l4 o) l3 = some (.lst [V.int (h - z1), V.non]) := fun o => by
      rw [upd_ne (ne_of_none upd_same nl4), upd_same]
    refine ⟨l3, _, _, _, rfl, rfl, SqL.of (k3 _), e1, ?_⟩
    -- the high end
    refine ⟨_, rfl, _, rfl, _, _, rfl, rfl, by show 2 ≤ sizeLine; decide, fun l5 nl5 => ?_⟩
    refine ⟨_, rfl, by show 2 ≤ sizeLine; decide, fun l6 nl6 => ?_⟩
    refine ⟨l6, _, rfl, .inl (SqL.of upd_same), rfl, rfl, .inr ⟨_, rfl, ?_⟩⟩
    obtain ⟨v2, e2, d2⟩ := two (inV (V.int y) [V.int 2, V.int 3]) (V.int (u + z2))
    refine ⟨l5, _, _, _, rfl, rfl, SqL.of (by rw [upd_ne (ne_of_none upd_same nl6), upd_same]), e2, by show 2 ≤ sizeLine; decide, fun t nt => ?_⟩
    have f1 : ∃ lo : Option Int, v1 = oV lo ∧ ∀ l, lo = some l → l ≤ h := by
      rcases d1 with rfl | rfl
      · exact ⟨some (h - z1), rfl, fun l e => by have := Option.some.inj e; omega⟩
      · exact ⟨none, rfl, fun l e => by cases e⟩
    have f2 : ∃ hi : Option Int, v2 = oV hi ∧ ∀ l, hi = some l → u ≤ l := by
      rcases d2 with rfl | rfl
      · exact ⟨some (u + z2), rfl, fun l e => by have := Option.some.inj e; omega⟩
      · exact ⟨none, rfl, fun l e => by cases e⟩
    obtain ⟨lo, rfl, q1⟩ := f1
    obtain ⟨hi, rfl, q2⟩ := f2
    have s6 := (((same_new nl3).trans (same_new nl4)).trans (same_new nl5)).trans ((same_new nl6).trans (same_new (o := .tup [oV lo, oV hi]) nt))
    exact k lo hi _ t q1 q2 (b15.trans (But.of s6)) (hp5.mono s6) upd_same
/-! ### _law_end -/
abbrev s__law_end : Stmt := top 57
theorem sc__law_end : FnScope ["_law_pool_here", "_law_start", "_law_ends_here", "_law_state", "_law_turn", "_law_new"] ["_law_pool_here", "_law_start", "_law_ends_here"] (defScope s__law_end) := ⟨rfl, rfl, rfl, by decide +kernel, rfl, by decide +kernel, by decide +kernel⟩
def spEnd : Sp := fun vs H Q _ => ∃ (p a t : Addr) (q : HS.St) (lo hi : Option Int), vs = [.ref p, .ref a, .ref t] ∧ PoolH H p ∧ StH H a q ∧ EndsH H t lo hi ∧ HS.ins lo hi q.2.1 = true ∧
  ∀ e b n H', n ≤ 6 → HS.Pth lo hi n q e → But p H H' → PoolH H' p → StH H' b e → Q (.ref b) H'
theorem letter {i : Int} (h0 : 0 ≤ i) (h4 : i < 4) : ∃ c : HS.Sp, ∃ n : Nat, atI (PySem.Str.ofString "EWUD").cps.toList i = some n ∧ (⟨#[n]⟩ : Str) = nm c := by
  have c : i = 0 ∨ i = 1 ∨ i = 2 ∨ i = 3 := by omega
  rcases c with rfl | rfl | rfl | rfl
  · exact ⟨.E, 69, by decide +kernel, by decide +kernel⟩
  · exact ⟨.W, 87, by decide +kernel, by decide +kernel⟩
  · exact ⟨.U, 85, by decide +kernel, by decide +kernel⟩
  · exact ⟨.D, 68, by decide +kernel, by decide +kernel⟩
theorem ok_end (T : Txt K mg) (c__law_take : Fn P w K mg base 1 "_law_take" [] ["_law_pool_here", "_law_bound"] spTake) (c__law_after : Fn P w K mg base 1 "_law_after" [] ["_law_state", "_law_step"] spAfter) (c__law_inside : Fn P w K mg base 1 "_law_inside" [] ["_law_ends_here", "_law_level"] spInside)
    (F : FnP K "_law_end" s__law_end [] [] f fd) : FnOk P w K mg base CX0 2 f fd ["_law_pool_here", "_law_start", "_law_ends_here"] spEnd := by
  refine F.ok sc__law_end (fun vs H Q E h => ?_) (fun cdv A outer s H vs Q E hr h => ⟨_, PSs.nox (pss_cons (ps_set (i := 3) sc__law_end.nd rfl (Or.inl rfl) (pv 1)) (pss_cons (ps_for PassesOwn.never rfl (pi_range1 (by rfl) T.range_ (pa_cons (pe_callF c__law_take (hr.mono (by decide)) (pa_cons (pv 0) (pa_cons pe_int pa_nil))) pa_nil)) (pg_name (i := 4) sc__law_end.nd rfl (Or.inl rfl)) (pss_cons (ps_set (i := 5) sc__law_end.nd rfl (Or.inl rfl) (pe_callF c__law_after (hr.mono (by decide)) (pa_cons (pv 3) (pa_cons (pe_ix ix_str pe_str (pe_callF c__law_take (hr.mono (by decide)) (pa_cons (pv 0) (pa_cons pe_int pa_nil))) (fun _ _ => rfl)) pa_nil)))) (pss_one (ps_if (pt_val (pe_callF c__law_inside (hr.mono (by decide)) (pa_cons (pv 2) (pa_cons (pe_ix ix_tup (pv 5) pe_int (fun _ _ => rfl)) pa_nil)))) (pss_one (ps_set (i := 3) sc__law_end.nd rfl (Or.inl rfl) (pv 5))) pss_nil)))) (pss_one (ps_ret (pv 3))))), ?_⟩)
  · obtain ⟨p, a, t, q, lo, hi, rfl, _⟩ := h
    rfl
  · obtain ⟨p, a, t, q, lo, hi, rfl, hp, ha, ht, i1, k⟩ := h
    refine ⟨_, rfl, ?_⟩
    refine ⟨_, rfl, p, 7, rfl, hp, by decide, by decide, fun m H1 m0 m7 b1 hp1 => ?_⟩
    refine ⟨m, rfl, by omega, by omega, for_range (lo := 0) (n := m.toNat) (fun i σ H' => ∃ (b : Addr) (e : HS.St) (n : Nat) (v4 v5 : Option V), σ = [some (.ref p), some (.ref a), some (.ref t), some (.ref b), v4, v5] ∧ n ≤ i ∧ HS.Pth lo hi n q e ∧ But p H H' ∧ PoolH H' p ∧ StH H' b e) ⟨a, q, 0, none, none, rfl, Nat.le_refl 0, .nil q, b1, hp1, b1.st hp ha⟩ ?_ ?_⟩
    · rintro i σ H2 hi2 ⟨b, e, n, v4, v5, rfl, hn, pth, b2, hp2, hb⟩
      refine ⟨_, rfl, ?_⟩
      refine ⟨_, rfl, p, 4, rfl, hp2, by decide, by decide, fun r H3 r0 r4 b3 hp3 => ?_⟩
      obtain ⟨c, z, hz, hc⟩ := letter r0 r4
      refine ⟨_, _, z, rfl, rfl, by show 4 ≤ sizeLine; decide, hz, ?_⟩
      have hb3 := b3.st hp2 hb
      rw [hc]
      refine ⟨b, e, c, rfl, hb3, fun H4 g s4 hg => ?_⟩
      have ht4 : EndsH H4 t lo hi := (EndsH.but (b2.trans b3) hp ht).mono s4
      refine ⟨_, rfl, _, rfl, g, _, _, _, rfl, rfl, SqT.of hg, atI_nat (j := 1) rfl, t, lo, hi, _, rfl, ht4, _, rfl, ?_⟩
      have b4 := (b2.trans b3).trans (But.of s4)
      refine ite2 (fun y => ?_) (fun y => ?_)
      · exact ⟨_, rfl, g, _, n + 1, _, _, rfl, by omega, HS.pth_snoc pth c y, b4, hp3.mono s4, hg⟩
      · exact ⟨b, e, n, _, _, rfl, by omega, pth, b4, hp3.mono s4, s4 _ _ hb3⟩
    · rintro σ H2 ⟨b, e, n, v4, v5, rfl, hn, pth, b2, hp2, hb⟩
      exact ⟨_, rfl, k e b n H2 (by omega) pth b2 hp2 hb⟩
end
end Hs
set_option maxHeartbeats 4000000
namespace Hs
open PySem L2 HSR
theorem dgetF {H : Hp} {a b : Addr} {o : Obj} {kvs : List (List Key × V)} {k : List Key} (e : H a = some (.frz o (.dT kvs))) (eb : H b = some (.tup (k.map kV))) : DGet H a (.ref b) (valV kvs k) := .inr ⟨kvs, k, b, .inr ⟨o, e⟩, rfl, eb, rfl⟩
theorem getT_of {T : HS.Tab} {q : HS.St} {n : Int} (nd : (T.map (·.1)).Nodup) (h : (q, n) ∈ T) : HS.getT T q = some n := by
  induction T with
  | nil => cases h
  | cons a T ih =>
    rw [List.map_cons, List.nodup_cons] at nd
    rw [HS.getT_cons]
    rcases List.mem_cons.mp h with h | h
    · rw [← h, if_pos rfl]
    · have : ¬ a.1 = q := fun z => nd.1 (z ▸ List.mem_map.mpr ⟨_, h, rfl⟩)
      rw [if_neg this, ih nd.2 h]
theorem iter_Tm {lo hi : Option Int} (f : HS.St → Int) : ∀ k, HS.iter lo hi (HS.Tm lo hi f) k = HS.Tm lo hi (HS.iter lo hi f k)
  | 0 => rfl
  | k + 1 => by
    show HS.Tm lo hi _ = HS.Tm lo hi _
    rw [iter_Tm f k]
    rfl
/-- the signs of EWUD -/
theorem signs {j c : Nat} (h : (PySem.Str.ofString "EWUD").cps[j]? = some c) : ∃ s, (⟨#[c]⟩ : Str) = nm s ∧ HS.steps[j]? = some s := by
  have sz : (PySem.Str.ofString "EWUD").cps = #[69, 87, 85, 68] := by decide +kernel
  rw [sz] at h
  match j, h with
  | 0, h => exact ⟨.E, by rw [← Option.some.inj h]; decide +kernel, rfl⟩
  | 1, h => exact ⟨.W, by rw [← Option.some.inj h]; decide +kernel, rfl⟩
  | 2, h => exact ⟨.U, by rw [← Option.some.inj h]; decide +kernel, rfl⟩
  | 3, h => exact ⟨.D, by rw [← Option.some.inj h]; decide +kernel, rfl⟩
  | n + 4, h => simp at h
theorem signs_size : (PySem.Str.ofString "EWUD").cps.size = 4 := by decide +kernel
section
variable {P : Program} {w : World} {K : PySem.W.Frag} {mg : Str → Option Value} {base : Heap} {f : Addr} {fd : FuncData}
/-! ### _law_table -/
abbrev s__law_table : Stmt := top 61
theorem sc__law_table : FnScope ["_law_start", "_law_count", "_law_table_here", "_law_turn", "_law_later", "_law_state", "_law_step", "_law_new"] ["_law_start", "_law_count"] (defScope s__law_table) := ⟨rfl, rfl, rfl, by decide +kernel, rfl, by decide +kernel, by decide +kernel⟩
def spTable : Sp := fun vs H Q _ => ∃ (a : Addr) (q : HS.St) (n : Nat), vs = [.ref a, .int n] ∧ StH H a q ∧ n ≤ 6 ∧
  ∀ H' c T, Same H H' → H c = none → TabH H' c T → HS.TabOk none none q n T → (∀ f, HS.pair T f = HS.iter none none f n q) → Q (.ref c) H'
theorem ok_table (T : Txt K mg) (c__law_after : Fn P w K mg base 1 "_law_after" [] ["_law_state", "_law_step"] spAfter) (F : FnP K "_law_table" s__law_table [] [] f fd) : FnOk P w K mg base CX0 2 f fd ["_law_start", "_law_count"] spTable := by
  refine F.ok sc__law_table (fun vs H Q E h => ?_) (fun cdv A outer s H vs Q E hr h => ⟨_, PSs.nox (pss_cons (ps_set (i := 2) sc__law_table.nd rfl (Or.inl rfl) (pe_oneT (hu_of hr) (pv 0) pe_int)) (pss_cons (ps_for PassesOwn.never rfl (pi_range1 (by rfl) T.range_ (pa_cons (pv 1) pa_nil)) (pg_name (i := 3) sc__law_table.nd rfl (Or.inl rfl)) (pss_cons (ps_set (i := 4) sc__law_table.nd rfl (Or.inl rfl) pe_dnewT) (pss_cons (ps_lock (ps_for PassesOwn.never rfl (pi_keys (pv 2)) (pg_name (i := 5) sc__law_table.nd rfl (Or.inl rfl)) (pss_one (ps_for PassesOwn.never rfl (pi_str pe_str) (pg_name (i := 6) sc__law_table.nd rfl (Or.inl rfl)) (pss_cons (ps_set (i := 7) sc__law_table.nd rfl (Or.inl rfl) (pe_callF c__law_after (hr.mono (by decide)) (pa_cons (pv 5) (pa_cons (pv 6) pa_nil)))) (pss_one (ps_dput (hu_of hr) (pv 4) (pv 7) (pe_op op_add (pe_dget2 (hu_of hr) (pv 4) (pv 7) pe_int ⟨rfl, rfl, rfl, rfl⟩) (pe_dget (hu_of hr) (pv 2) (pv 5) (fun _ _ => rfl))) rfl))))))) (pss_one (ps_set (i := 2) sc__law_table.nd rfl (Or.inl rfl) (pv 4)))))) (pss_one (ps_ret (pv 2))))), ?_⟩)
  · obtain ⟨a, q, n, rfl, _⟩ := h
    rfl
  · obtain ⟨a, q, n, rfl, ha, hn, k⟩ := h
    refine fun c nc => ⟨_, rfl, a, key q, rfl, (by rw [upd_ne (ne_of_none ha nc)]; exact ha), upd_same, ?_⟩
    rw [upd_upd]
    have s5 := same_new (o := .dT [(key q, .int 1)]) nc
    refine ⟨_, rfl, (n : Int), rfl, by omega, by omega, for_range (lo := 0) (n := n) (fun i σ H' => ∃ (c : Addr) (v3 v4 v5 v6 v7 : Option V) (T : HS.Tab), σ = [some (.ref a), some (.int n), some (.ref c), v3, v4, v5, v6, v7] ∧ Same H H' ∧ H c = none ∧ TabH H' c T ∧
      HS.TabOk none none q i T ∧ ∀ f, HS.pair T f = HS.iter none none f i q) ⟨c, none, none, none, none, none, [(q, 1)], rfl, s5, nc, upd_same, HS.tabOk_start q, fun f => ?_⟩ ?_ ?_⟩
    · rw [HS.pair_cons, HS.pair_nil]
      show 1 * f q + 0 = f q
      omega
    · rintro i σ H1 hi' ⟨c, v3, v4, v5, v6, v7, T, rfl, s1, nc1, hc, okT, hp⟩
      have small := HS.tab_small okT (by omega)
      refine fun p np => ?_
      have ncp : c ≠ p := ne_of_none hc np
      refine ⟨c, .dT (T.map ent), (by rw [upd_ne ncp]; exact hc), True.intro, fun od => ?_⟩
      refine ⟨_, rfl, c, od, rfl, .inr ⟨T.map ent, upd_same, for_it walk_keysT (fun i' σ H' => ∃ v5 v6 v7, σ = [some (.ref a), some (.int n), some (.ref c), some (.int (0 + (i : Int))), some (.ref p), v5, v6, v7] ∧ (∀ b o, b ≠ c → H1 b = some o → H' b = some o) ∧
        H' c = some (.frz od (.dT (T.map ent))) ∧ TabH H' p (Pre none none T i')) ⟨_, _, _, rfl, fun b o hb e => ?_, upd_same, ?_⟩ (fun i σ H' _ h => ?_) ?_ ?_⟩⟩
      · rw [upd_ne hb, upd_ne (ne_of_none e np)]
        exact e
      · show (upd (upd H1 p (.dT [])) c _) p = _
        rw [upd_ne ncp.symm, upd_same]
        rfl
      · obtain ⟨_, _, _, _, _, h, _⟩ := h
        exact h
      · rintro i' x σ H2 H2' hi2 ⟨v5, v6, v7, rfl, keep, hfc, hpt⟩ ⟨rfl, kk, vv, qa, hk, rfl, hqa⟩
        rw [List.getElem?_map] at hk
        cases hT : T[i']? with
        | none =>
          rw [hT] at hk
          cases hk
        | some pr =>
        obtain ⟨q', m⟩ := pr
        rw [hT] at hk
        obtain ⟨rfl, rfl⟩ := Prod.mk.inj (Option.some.inj hk).symm
        refine ⟨_, rfl, for_it walk_str (fun j σ H' => ∃ v6 v7, σ = [some (.ref a), some (.int n), some (.ref c), some (.int (0 + (i : Int))), some (.ref p), some (.ref qa), v6, v7] ∧ (∀ b o, b ≠ c → H1 b = some o → H' b = some o) ∧
          H' c = some (.frz od (.dT (T.map ent))) ∧ StH H' qa q' ∧ TabH H' p (HS.addTo none none q' m (Pre none none T i') (HS.steps.take j))) ⟨v6, v7, rfl, keep, hfc, hqa, hpt⟩ (fun _ _ _ _ _ => True.intro) ?_ ?_⟩
        · rintro j x σ H3 H3' hj ⟨v6, v7, rfl, keep, hfc, hqs, hpt⟩ ⟨rfl, cc, hcc, rfl⟩
          obtain ⟨st, est, hst⟩ := signs hcc
          rw [est]
          refine ⟨_, rfl, _, rfl, qa, q', st, rfl, hqs, fun H4 u s4 hu => ?_⟩
          have tk : HS.steps.take (j + 1) = HS.steps.take j ++ [st] := by
            rw [List.take_add_one, hst]
            rfl
          have hp4 := s4 _ _ hpt
          have hfc4 := s4 _ _ hfc
          have keep4 : ∀ b o, b ≠ c → H1 b = some o → H4 b = some o := fun b o hb e => s4 _ _ (keep b o hb e)
          have eg : (valV ((HS.addTo none none q' m (Pre none none T i') (HS.steps.take j)).map ent) (key (HS.aft q' st))).getD (.int 0) = V.int ((HS.getT (HS.addTo none none q' m (Pre none none T i') (HS.steps.take j)) (HS.aft q' st)).getD 0) := by
            rw [val_ent]
            cases HS.getT (HS.addTo none none q' m (Pre none none T i') (HS.steps.take j)) (HS.aft q' st) <;> rfl
          have ev : valV (T.map ent) (key q') = some (V.int m) := by
            rw [val_ent, getT_of okT.nd (List.mem_of_getElem? hT)]
            rfl
          refine ⟨_, rfl, p, rfl, .inr ⟨_, .inl hp4⟩, _, rfl, _, DGet.t (k := key (HS.aft q' st)) hp4 hu, ?_⟩
          refine ⟨_, rfl, _, rfl, c, _, rfl, (by rw [← ev]; exact dgetF (k := key q') hfc4 (s4 _ _ hqs)), _, _, eg, rfl, ?_⟩
          have big : (HS.addTo none none q' m (Pre none none T i') (HS.steps.take j)).length ≤ 4 * T.length + 4 := by
            have h1 := HS.len_add (lo := none) (hi := none) q' m (HS.steps.take j) (Pre none none T i')
            have h2 := pre_len (lo := none) (hi := none) T i'
            have h3 : (HS.steps.take j).length ≤ 4 := List.length_take_le' _ _
            omega
          refine ⟨_, rfl, _, rfl, p, _, rfl, DPut.t (k := key (HS.aft q' st)) hp4 hu ?_, ?_⟩
          · rw [List.length_map, sizeLine_eq]
            omega
          refine ⟨_, _, rfl, fun b o hb e => ?_, ?_, ?_, ?_⟩
          · rw [upd_ne (ne_of_none e np)]
            exact keep4 b o hb e
          · rw [upd_ne ncp]
            exact hfc4
          · show (upd H4 p _) qa = _
            rw [upd_ne (ne_of (s4 _ _ hqs) hp4 (fun z => nomatch z))]
            exact s4 _ _ hqs
          · show (upd H4 p _) p = _
            rw [upd_same, tk, addTo_snoc]
            unfold HS.add1
            rw [if_pos (show HS.ins none none _ = true from rfl), put_ent (nd_addTo _ (nd_pre T i'))]
        · rintro σ H3 ⟨v6, v7, rfl, keep, hfc, hqs, hpt⟩
          refine ⟨_, _, _, rfl, keep, hfc, ?_⟩
          rw [signs_size] at hpt
          rw [pre_succ hT]
          exact hpt
      · rintro σ H2 ⟨v5, v6, v7, rfl, keep, hfc, hpt⟩
        refine ⟨hfc, _, rfl, p, _, _, _, _, _, HS.extT none none T, rfl, s1.trans (lock_back hc keep), s1.free np, ?_, HS.tabOk_ext okT, fun f => ?_⟩
        · show (upd H2 c _) p = _
          rw [upd_ne ncp.symm]
          have e : Pre none none T (T.map ent).length = HS.extT none none T := by
            unfold Pre HS.extT
            rw [List.length_map, List.take_length]
          rw [← e]
          exact hpt
        · rw [HS.pair_ext, hp, iter_Tm]
          rfl
    · rintro σ H1 ⟨c, v3, v4, v5, v6, v7, T, rfl, s1, nc1, hc, okT, hp⟩
      exact ⟨_, rfl, k H1 c T s1 nc1 hc okT hp⟩
end
end Hs
set_option maxHeartbeats 4000000
namespace Hs
open PySem L2 HSR
/-- the numbers of the paths behind the first steps r -/
def parts (lo hi : Option Int) (n : Nat) (e q : HS.St) (r : List HS.Sp) : List Int := (r.filter fun s => HS.ins lo hi (HS.aft q s).2.1).map fun s => HS.cnt lo hi n e (HS.aft q s)
theorem parts_sum {lo hi : Option Int} {n : Nat} {e q : HS.St} : (parts lo hi n e q HS.steps).sum = HS.cnt lo hi (n + 1) e q := by
  show _ = HS.Tm lo hi (HS.cnt lo hi n e) q
  unfold parts HS.Tm HS.on HS.steps
  by_cases c1 : HS.ins lo hi (HS.aft q .E).2.1 = true <;> by_cases c2 : HS.ins lo hi (HS.aft q .W).2.1 = true <;> by_cases c3 : HS.ins lo hi (HS.aft q .U).2.1 = true <;> by_cases c4 : HS.ins lo hi (HS.aft q .D).2.1 = true <;>
    simp [List.filter_cons, c1, c2, c3, c4] <;> omega
theorem parts_snoc {lo hi : Option Int} {n : Nat} {e q : HS.St} (r : List HS.Sp) (s : HS.Sp) : parts lo hi n e q (r ++ [s]) = if HS.ins lo hi (HS.aft q s).2.1 = true then parts lo hi n e q r ++ [HS.cnt lo hi n e (HS.aft q s)] else parts lo hi n e q r := by
  unfold parts
  rw [List.filter_append, List.map_append, List.filter_cons]
  by_cases c : HS.ins lo hi (HS.aft q s).2.1 = true
  · rw [if_pos c, if_pos c]
    rfl
  · rw [if_neg c, if_neg c]
    simp
theorem parts_len {lo hi : Option Int} {n : Nat} {e q : HS.St} (j : Nat) : (parts lo hi n e q (HS.steps.take j)).length ≤ 4 := by
  unfold parts
  rw [List.length_map]
  have h1 := List.length_filter_le (fun s => HS.ins lo hi (HS.aft q s).2.1) (HS.steps.take j)
  have h2 : (HS.steps.take j).length ≤ 4 := List.length_take_le' _ _
  omega
theorem take_snoc {j : Nat} {s : HS.Sp} (h : HS.steps[j]? = some s) : HS.steps.take (j + 1) = HS.steps.take j ++ [s] := by
  rw [List.take_add_one, h]
  rfl
/-- a list D of the states behind the first j steps -/
def AftL (H : Hp) (D : Addr) (q : HS.St) (j : Nat) : Prop := ∃ us : List Addr, us.length = j ∧ H D = some (.lst (us.map V.ref)) ∧ ∀ (i : Nat) (u : Addr) (s : HS.Sp), us[i]? = some u → HS.steps[i]? = some s → StH H u (HS.aft q s)
theorem AftL.mono {H H' : Hp} {D : Addr} {q : HS.St} {j : Nat} (s : Same H H') (h : AftL H D q j) : AftL H' D q j := by
  obtain ⟨us, h1, h2, h3⟩ := h
  exact ⟨us, h1, s _ _ h2, fun i u c e1 e2 => s _ _ (h3 i u c e1 e2)⟩
theorem AftL.snoc {H H' : Hp} {D u : Addr} {q : HS.St} {j : Nat} {s : HS.Sp} {acc : List V} (h : AftL H D q j) (sm : Same H H') (hs : HS.steps[j]? = some s) (hu : StH H' u (HS.aft q s)) (ha : H' D = some (.lst acc)) : acc.length = j ∧ AftL (upd H' D (.lst (acc ++ [V.ref u]))) D q (j + 1) := by
  obtain ⟨us, h1, h2, h3⟩ := h
  have e := sm _ _ h2
  rw [ha] at e
  obtain rfl : acc = us.map V.ref := by injection e with e; injection e
  refine ⟨by rw [List.length_map, h1], us ++ [u], by rw [List.length_append, h1]; rfl, by rw [upd_same, List.map_append]; rfl, fun i x c e1 e2 => ?_⟩
  have st : StH H' x (HS.aft q c) := by
    by_cases hi : i < us.length
    · rw [List.getElem?_append_left hi] at e1
      exact sm _ _ (h3 i x c e1 e2)
    · have : i = us.length := by
        have := (List.getElem?_eq_some_iff.mp e1).1
        rw [List.length_append] at this
        simp at this
        omega
      subst this
      rw [List.getElem?_append_right (Nat.le_refl _), Nat.sub_self] at e1
      obtain rfl : u = x := Option.some.inj e1
      rw [h1, hs] at e2
      obtain rfl := Option.some.inj e2
      exact hu
  show (upd H' D _) x = _
  rw [upd_ne (ne_of st ha (fun z => nomatch z))]
  exact st
theorem AftL.at {K : PySem.W.Frag} {H : Hp} {D : Addr} {q : HS.St} (h : AftL H D q 4) : ∃ xs : List V, xs.length = 4 ∧ SqL K H D xs ∧ ∀ (j : Nat) (x : V), xs[j]? = some x → ∃ u s, x = .ref u ∧ HS.steps[j]? = some s ∧ StH H u (HS.aft q s) := by
  obtain ⟨us, h1, h2, h3⟩ := h
  refine ⟨us.map V.ref, by rw [List.length_map, h1], SqL.of h2, fun j x e => ?_⟩
  rw [List.getElem?_map] at e
  cases g : us[j]? with
  | none =>
    rw [g] at e
    cases e
  | some u =>
    rw [g] at e
    obtain rfl := Option.some.inj e
    have lt : j < 4 := by
      have := (List.getElem?_eq_some_iff.mp g).1
      omega
    have gs : HS.steps[j]? = some (HS.steps[j]'(by show j < 4; exact lt)) := List.getElem?_eq_getElem _
    exact ⟨u, _, rfl, gs, h3 j u _ g gs⟩
section
variable {P : Program} {w : World} {K : PySem.W.Frag} {mg : Str → Option Value} {base : Heap} {f : Addr} {fd : FuncData}
/-! ### _law_lengths_right -/
abbrev s__law_lengths_right : Stmt := top 58
theorem sc__law_lengths_right : FnScope ["_law_start", "_law_end_here", "_law_ends_here", "_law_limits", "_law_most", "_law_length", "_law_found", "_law_parts", "_law_step", "_law_state"] ["_law_start", "_law_end_here", "_law_ends_here", "_law_limits", "_law_most"] (defScope s__law_lengths_right) := ⟨rfl, rfl, rfl, by decide +kernel, rfl, by decide +kernel, by decide +kernel⟩
def spLengths (K : PySem.W.Frag) : Sp := fun vs H Q _ => ∃ (a b t : Addr) (v : V) (q e : HS.St) (lo hi : Option Int) (m n0 : Nat), vs = [.ref a, .ref b, .ref t, v, .int m] ∧ StH H a q ∧ StH H b e ∧ EndsH H t lo hi ∧ BandV K H v lo hi ∧ HS.ins lo hi q.2.1 = true ∧ HS.Pth lo hi n0 q e ∧ n0 ≤ 900 ∧ m ≤ 10 ∧
  ∀ H', Same H H' → Q (.bl true) H'
theorem ok_lengths (T : Txt K mg) (ck_count_paths : KFn P w K mg base 6 3 "count_paths" ["start", "end", "length", "band"] (spCount K)) (ck_is_reachable : KFn P w K mg base 8 3 "is_reachable" ["start", "end", "length", "band"] (spReach K))
    (c__law_after : Fn P w K mg base 1 "_law_after" [] ["_law_state", "_law_step"] spAfter) (c__law_inside : Fn P w K mg base 1 "_law_inside" [] ["_law_ends_here", "_law_level"] spInside)
    (F : FnP K "_law_lengths_right" s__law_lengths_right [] [] f fd) : FnOk P w K mg base CX0 9 f fd ["_law_start", "_law_end_here", "_law_ends_here", "_law_limits", "_law_most"] (spLengths K) := by
  refine F.ok sc__law_lengths_right (fun vs H Q E h => ?_) (fun cdv A outer s H vs Q E hr h => ⟨_, PSs.nox (pss_cons (ps_for PassesOwn.never rfl (pi_range1 (by rfl) T.range_ (pa_cons (pe_op op_add (pv 4) pe_int) pa_nil)) (pg_name (i := 5) sc__law_lengths_right.nd rfl (Or.inr rfl)) (pss_cons (ps_set (i := 6) sc__law_lengths_right.nd rfl (Or.inl rfl) (pe_callKF ck_count_paths (hr.mono (by decide)) (pa_cons (pv 0) (pa_cons (pv 1) (pa_cons (pv 5) pa_nil))) (pk_cons (pv 3) pk_nil))) (pss_cons (ps_if (pt_cmpR op_ne (pe_cmpR op_gt (pv 6) pe_int (nomark _)) (pe_callKF ck_is_reachable (hr.mono (by decide)) (pa_cons (pv 0) (pa_cons (pv 1) (pa_cons (pv 5) pa_nil))) (pk_cons (pv 3) pk_nil)) (nomark _)) (pss_one (ps_ret pe_bl)) pss_nil) (pss_one (ps_if (pt_cmpR op_gt (pv 5) pe_int (nomark _)) (pss_cons (ps_setLc (i := 7) (own := [("_law_step", 8)]) (g := gName 8) (tt := tYes) rfl sc__law_lengths_right.nd rfl rfl (sw_true rfl rfl rfl (by decide +kernel)) (pi_str pe_str) (blkOk_by (own := [("_law_step", 8)]) (N := ["_law_start", "_law_end_here", "_law_ends_here", "_law_limits", "_law_most", "_law_length", "_law_found", "_law_parts", "_law_step", "_law_state"]) (sc := defScope s__law_lengths_right) (by decide +kernel)) (fun _ _ _ _ _ => (pg_name (i := 8) sc__law_lengths_right.nd rfl (Or.inl rfl))) (fun _ _ _ _ _ => pts_nil) (fun _ _ _ _ _ => (pe_callF c__law_after (hr.mono (by decide)) (pa_cons (pv 0) (pa_cons (pv 8) pa_nil))))) (pss_cons (ps_setLc (i := 7) (own := [("_law_state", 9)]) (g := gName 9) rfl sc__law_lengths_right.nd rfl rfl (sw_true rfl rfl rfl (by decide +kernel)) (pi_list (pv 7)) (blkOk_by (own := [("_law_state", 9)]) (N := ["_law_start", "_law_end_here", "_law_ends_here", "_law_limits", "_law_most", "_law_length", "_law_found", "_law_parts", "_law_step", "_law_state"]) (sc := defScope s__law_lengths_right) (by decide +kernel)) (fun _ _ _ _ _ => (pg_name (i := 9) sc__law_lengths_right.nd rfl (Or.inl rfl))) (fun _ _ _ _ _ => (pts_one (pt_val (pe_callF c__law_inside (hr.mono (by decide)) (pa_cons (pv 2) (pa_cons (pe_ix (r := rIxT K) ix_tup (pv 9) pe_int (fun _ _ => rfl)) pa_nil)))))) (fun _ _ _ _ _ => (pe_callKF ck_count_paths (hr.mono (by decide)) (pa_cons (pv 9) (pa_cons (pv 1) (pa_cons (pe_op op_sub (pv 5) pe_int) pa_nil))) (pk_cons (pv 3) pk_nil)))) (pss_one (ps_if (pt_cmpR op_ne (pv 6) (pe_callB (cr_sum rfl) (by rfl) T.sum_ (by decide +kernel) (pa_cons (pv 7) pa_nil)) (nomark _)) (pss_one (ps_ret pe_bl)) pss_nil)))) pss_nil))))) (pss_one (ps_ret pe_bl))), ?_⟩)
  · obtain ⟨a, b, t, v, q, e, lo, hi, m, n0, rfl, _⟩ := h
    rfl
  · obtain ⟨a, b, t, v, q, e, lo, hi, m, n0, rfl, ha, hb, ht, hv, i1, pth, hn0, hm, k⟩ := h
    have i2 := pth.ends i1
    refine ⟨_, rfl, _, _, rfl, rfl, ((m + 1 : Nat) : Int), rfl, by omega, by omega, for_range (lo := 0) (n := m + 1) (fun i σ H' => ∃ v5 v6 v7 v8 v9, σ = [some (.ref a), some (.ref b), some (.ref t), some v, some (.int m), v5, v6, v7, v8, v9] ∧ Same H H') ⟨none, none, none, none, none, rfl, fun _ _ z => z⟩ ?_ ?_⟩
    · rintro i σ H1 hi' ⟨v5, v6, v7, v8, v9, rfl, s1⟩
      rw [show (0 : Int) + (i : Int) = (i : Int) from Int.zero_add _]
      refine ⟨_, rfl, _, rfl, _, rfl, _, rfl, rfl, rfl, a, b, v, q, e, lo, hi, i, rfl, ha.mono s1, hb.mono s1, hv.mono s1, i1, i2, near_of pth (by omega), by omega, fun H2 s2 => ?_⟩
      have s12 := s1.trans s2
      refine ⟨_, rfl, _, _, rfl, rfl, _, rfl, _, rfl, _, rfl, _, rfl, rfl, rfl, a, b, v, q, e, lo, hi, i, rfl, ha.mono s12, hb.mono s12, hv.mono s12, i1, i2, near_of pth (by omega), by omega, fun c H3 s3 hc => ?_⟩
      have s13 := s12.trans s3
      have ec : decide ((0 : Int) < HS.cnt lo hi i e q) = c := by
        rw [Bool.eq_iff_iff, hc, decide_eq_true_iff]
        exact HS.cnt_pos
      refine ⟨rfl, _, rfl, ?_⟩
      refine ite2 (fun z => ?_) (fun _ => ?_)
      · have z' : (!decide (V.bl (decide ((0 : Int) < HS.cnt lo hi i e q)) = V.bl c)) = true := z
        rw [ec, decide_eq_true rfl] at z'
        exact absurd z' (by decide)
      refine ⟨_, rfl, _, _, rfl, rfl, _, rfl, ?_⟩
      refine ite2 (fun z => ?_) (fun _ => ⟨_, _, _, _, _, rfl, s13⟩)
      have i0 : (0 : Int) < i := of_decide_eq_true z
      obtain ⟨n, rfl⟩ : ∃ n, i = n + 1 := ⟨i - 1, by omega⟩
      refine ⟨_, rfl, fun D nD => lc_it walk_str (fun j H' => Same H3 H' ∧ AftL H' D q j) ⟨same_new nD, [], rfl, upd_same, fun i u s e1 => by cases e1⟩ (fun _ _ _ _ => True.intro) ?_ ?_⟩
      · rintro j x H4 H4' hj ⟨s4, hA⟩ ⟨rfl, cc, hcc, rfl⟩
        obtain ⟨st, est, hst⟩ := signs hcc
        rw [est]
        refine ⟨rfl, _, rfl, _, rfl, a, q, st, rfl, ha.mono (s13.trans s4), fun H5 u s5 hu => ?_⟩
        obtain ⟨us, hus, hD, _⟩ := id hA
        have hD5 := s5 _ _ hD
        have r := hA.snoc s5 hst hu hD5
        refine ⟨_, hD5, ?_, ?_, r.2⟩
        · rw [r.1, sizeLine_eq]
          rw [signs_size] at hj
          omega
        · intro b' o e'
          rw [upd_ne (ne_of_none e' nD)]
          exact (s4.trans s5) _ _ e'
      rintro H4 ⟨s4, hA⟩
      rw [signs_size] at hA
      have s14 := s13.trans s4
      obtain ⟨xs, lx, hxs, hat⟩ := hA.at (K := K)
      refine ⟨_, rfl, D, rfl, ⟨xs, hxs⟩, fun D2 nD2 => lc_it walk_list (fun j H' => Same H4 H' ∧ H' D2 = some (.lst ((parts lo hi n e q (HS.steps.take j)).map V.int))) ⟨same_new nD2, upd_same⟩ (fun j H' _ h => h.1.seq hxs) ?_ ?_⟩
      · rintro j x H5 H5' hj ⟨s5, hD⟩ ⟨rfl, hx⟩
        obtain ⟨u, st, rfl, hst, hu⟩ := hat j x hx
        have s15 := s14.trans s5
        have tk := take_snoc hst
        refine ⟨rfl, _, rfl, _, rfl, u, _, _, _, rfl, rfl, SqT.of (hu.mono s5), atI_nat (j := 1) rfl, t, lo, hi, _, rfl, ht.mono s15, ?_⟩
        refine ⟨_, rfl, ?_⟩
        refine ite2 (fun z => ?_) (fun z => ?_)
        · have pb : HS.Pth lo hi (n0 + 1) (HS.aft q st) e := .cons (HS.opp st) (by rw [HS.aft_opp]; exact i1) (by rw [HS.aft_opp]; exact pth)
          refine ⟨_, rfl, _, rfl, _, rfl, _, _, rfl, rfl, _, rfl, rfl, rfl, u, b, v, _, e, lo, hi, n, (by show [V.ref u, V.ref b, V.int (((n + 1 : Nat) : Int) - 1), v] = _; rw [show ((n + 1 : Nat) : Int) - 1 = (n : Int) by omega]), hu.mono s5, hb.mono s15, hv.mono s15, z, i2, near_of pb (by omega), by omega, fun H6 s6 => ?_⟩
          have hD6 := s6 _ _ hD
          refine ⟨_, hD6, ?_, ?_, ?_⟩
          · rw [List.length_map, sizeLine_eq]
            have := parts_len (lo := lo) (hi := hi) (n := n) (e := e) (q := q) j
            omega
          · intro b' o e'
            rw [upd_ne (ne_of_none e' nD2)]
            exact (s5.trans s6) _ _ e'
          · rw [upd_same, tk, parts_snoc, if_pos z, List.map_append]
            rfl
        · refine ⟨s5, ?_⟩
          rw [tk, parts_snoc, if_neg z]
          exact hD
      rintro H5 ⟨s5, hD⟩
      have full : (parts lo hi n e q (HS.steps.take xs.length)) = parts lo hi n e q HS.steps := by
        rw [lx]
        rfl
      rw [full] at hD
      refine ⟨_, rfl, _, rfl, D2, _, rfl, SqL.of hD, rfl, _, rfl, ?_⟩
      rw [parts_sum]
      refine ite2 (fun z => absurd z (by simp)) (fun _ => ?_)
      exact ⟨_, _, _, _, _, rfl, s14.trans s5⟩
    · rintro σ H1 ⟨v5, v6, v7, v8, v9, rfl, s1⟩
      exact k H1 s1
end
end Hs
set_option maxHeartbeats 4000000
namespace Hs
open PySem L2 HSR
/-! ### states as data; the numbers are small -/
def dSt (q : HS.St) : PyData := .tuple [.int q.1, .int q.2.1, .int q.2.2]
theorem dSt_shaped (q : HS.St) : SeqAt.shaped (dSt q) = true := by
  unfold dSt SeqAt.shaped
  simp [PyData.canLay0, PyData.canLayAll0, PyData.depth, PyData.depthAll]
theorem dSt_eqv (q e : HS.St) : PyData.eqv (dSt q) (dSt e) = decide (q = e) := by
  obtain ⟨a, b, c⟩ := q
  obtain ⟨a', b', c'⟩ := e
  have h : PyData.eqv (dSt (a, b, c)) (dSt (a', b', c')) = ((a == a') && ((b == b') && ((c == c') && true))) := by simp only [dSt, PyData.eqv, PyData.eqvAll]
  rw [h, Bool.eq_iff_iff]
  simp
theorem dSt_dp {K : PySem.W.Frag} {H : Hp} {a : Addr} {q : HS.St} (h : StH H a q) : Dp K H (.ref a) (dSt q) := .tup (SqT.of h) (.cons (.int _) (.cons (.int _) (.cons (.int _) .nil)))
theorem on_le {lo hi : Option Int} {f : HS.St → Int} {N : Int} (h0 : 0 ≤ N) (hf : ∀ q, f q ≤ N) (q : HS.St) : HS.on lo hi f q ≤ N := by
  unfold HS.on
  split
  · exact hf q
  · exact h0
theorem cnt_le {lo hi : Option Int} : ∀ (n : Nat) (e q : HS.St), HS.cnt lo hi n e q ≤ ((4 ^ n : Nat) : Int)
  | 0, e, q => by
    show (if q = e then (1 : Int) else 0) ≤ 1
    split <;> omega
  | n + 1, e, q => by
    show HS.Tm lo hi (HS.cnt lo hi n e) q ≤ _
    unfold HS.Tm
    have e4 : 4 ^ (n + 1) = 4 ^ n * 4 := Nat.pow_succ ..
    have b : ∀ r, HS.on lo hi (HS.cnt lo hi n e) r ≤ ((4 ^ n : Nat) : Int) := on_le (Int.natCast_nonneg _) (cnt_le n e)
    rw [e4]
    generalize 4 ^ n = N at b
    have b1 := b (HS.aft q .E)
    have b2 := b (HS.aft q .W)
    have b3 := b (HS.aft q .U)
    have b4 := b (HS.aft q .D)
    omega
theorem cnt_repr {lo hi : Option Int} {n : Nat} {e q : HS.St} (h : n ≤ 14) : (HS.cnt lo hi n e q).natAbs.log2 < 1920 := by
  have h1 := cnt_le (lo := lo) (hi := hi) n e q
  have h2 := HS.cnt_nonneg (lo := lo) (hi := hi) n e q
  have h3 : 4 ^ n ≤ 4 ^ 14 := Nat.pow_le_pow_right (by decide) h
  have h4 : (4 : Nat) ^ 14 = 268435456 := by decide
  have h5 : (HS.cnt lo hi n e q).natAbs ≤ 268435456 := by omega
  have h6 : (HS.cnt lo hi n e q).natAbs.log2 ≤ (HS.cnt lo hi n e q).natAbs := Nat.log2_le_self _
  by_cases z : (HS.cnt lo hi n e q).natAbs = 0
  · rw [z]
    decide
  · have h7 := Nat.log2_self_le z
    have h8 : (HS.cnt lo hi n e q).natAbs.log2 < 29 := by
      apply Classical.byContradiction
      intro c
      have h9 : 2 ^ 29 ≤ 2 ^ (HS.cnt lo hi n e q).natAbs.log2 := Nat.pow_le_pow_right (by decide) (by omega)
      have h10 : (2 : Nat) ^ 29 = 536870912 := by decide
      omega
    omega
/-- the shortest paths behind the next steps among r -/
noncomputable def shorts (lo hi : Option Int) (e : HS.St) (m : Nat) (q : HS.St) (r : List HS.Sp) : List Int := r.map fun s => HS.cnt lo hi m e (HS.aft q s)
theorem on_next {lo hi : Option Int} {q e : HS.St} {m : Nat} {s : HS.Sp} (h : HS.DistN lo hi (m + 1) q e) (hq : HS.ins lo hi q.2.1 = true) :
    HS.on lo hi (HS.cnt lo hi m e) (HS.aft q s) = if nextS lo hi e m q s = true then HS.cnt lo hi m e (HS.aft q s) else 0 := by
  rw [HS.cnt_shortest_step h hq]
  unfold nextS
  by_cases c1 : HS.ins lo hi (HS.aft q s).2.1 = true
  · rw [if_pos c1, c1, Bool.true_and]
  · rw [if_neg c1, Bool.eq_false_iff.mpr c1, Bool.false_and]
    rfl
theorem shorts_sum {lo hi : Option Int} {q e : HS.St} {m : Nat} (h : HS.DistN lo hi (m + 1) q e) (hq : HS.ins lo hi q.2.1 = true) : (shorts lo hi e m q (HS.steps.filter (nextS lo hi e m q))).sum = HS.cnt lo hi (m + 1) e q := by
  show _ = HS.Tm lo hi (HS.cnt lo hi m e) q
  unfold shorts HS.Tm
  rw [on_next h hq, on_next h hq, on_next h hq, on_next h hq]
  unfold HS.steps
  by_cases c1 : nextS lo hi e m q .E = true <;> by_cases c2 : nextS lo hi e m q .W = true <;> by_cases c3 : nextS lo hi e m q .U = true <;> by_cases c4 : nextS lo hi e m q .D = true <;>
    simp [List.filter_cons, c1, c2, c3, c4] <;> omega
section
variable {P : Program} {w : World} {K : PySem.W.Frag} {mg : Str → Option Value} {base : Heap} {f : Addr} {fd : FuncData}
/-! ### _law_shortest_right -/
abbrev s__law_shortest_right : Stmt := top 59
theorem sc__law_shortest_right : FnScope ["_law_start", "_law_end_here", "_law_limits", "_law_long", "_law_found", "_law_steps", "_law_step"] ["_law_start", "_law_end_here", "_law_limits"] (defScope s__law_shortest_right) := ⟨rfl, rfl, rfl, by decide +kernel, rfl, by decide +kernel, by decide +kernel⟩
def spShortest (K : PySem.W.Frag) : Sp := fun vs H Q _ => ∃ (a b : Addr) (v : V) (q e : HS.St) (lo hi : Option Int) (n0 : Nat), vs = [.ref a, .ref b, v] ∧ StH H a q ∧ StH H b e ∧ BandV K H v lo hi ∧ HS.ins lo hi q.2.1 = true ∧ HS.Pth lo hi n0 q e ∧ n0 ≤ 10 ∧
  ∀ H', Same H H' → Q (.bl true) H'
theorem ok_shortest (T : Txt K mg) (ck_distance : KFn P w K mg base 8 2 "distance" ["start", "end", "band"] (spDist K)) (ck_count_shortest_paths : KFn P w K mg base 9 2 "count_shortest_paths" ["start", "end", "band"] (spShort K))
    (ck_count_paths : KFn P w K mg base 6 3 "count_paths" ["start", "end", "length", "band"] (spCount K)) (ck_next_steps : KFn P w K mg base 10 2 "next_steps" ["state", "goal", "band"] (spNext K))
    (c__law_after : Fn P w K mg base 1 "_law_after" [] ["_law_state", "_law_step"] spAfter)
    (F : FnP K "_law_shortest_right" s__law_shortest_right [] [] f fd) : FnOk P w K mg base CX0 11 f fd ["_law_start", "_law_end_here", "_law_limits"] (spShortest K) := by
  refine F.ok sc__law_shortest_right (fun vs H Q E h => ?_) (fun cdv A outer s H vs Q E hr h => ⟨_, PSs.nox (pss_cons (ps_set (i := 3) sc__law_shortest_right.nd rfl (Or.inl rfl) (pe_callKF ck_distance (hr.mono (by decide)) (pa_cons (pv 0) (pa_cons (pv 1) pa_nil)) (pk_cons (pv 2) pk_nil))) (pss_cons (ps_set (i := 4) sc__law_shortest_right.nd rfl (Or.inl rfl) (pe_callKF ck_count_shortest_paths (hr.mono (by decide)) (pa_cons (pv 0) (pa_cons (pv 1) pa_nil)) (pk_cons (pv 2) pk_nil))) (pss_cons (ps_if (pt_cmpR op_ne (pe_callB SkE.call_repr_int (by rfl) T.repr_ (by decide +kernel) (pa_cons (pv 4) pa_nil)) (pe_callB SkE.call_repr_int (by rfl) T.repr_ (by decide +kernel) (pa_cons (pe_callKF ck_count_paths (hr.mono (by decide)) (pa_cons (pv 0) (pa_cons (pv 1) (pa_cons (pv 3) pa_nil))) (pk_cons (pv 2) pk_nil)) pa_nil)) (nomark _)) (pss_one (ps_ret pe_bl)) pss_nil) (pss_cons (ps_if (pt_cmpR (op_eqD hr.units) (pv 0) (pv 1) (nomark _)) (pss_one (ps_ret (pe_cmpR op_eq (pv 4) pe_int (nomark _)))) pss_nil) (pss_cons (ps_set (i := 5) sc__law_shortest_right.nd rfl (Or.inl rfl) (pe_callKF ck_next_steps (hr.mono (by decide)) (pa_cons (pv 0) (pa_cons (pv 1) pa_nil)) (pk_cons (pv 2) pk_nil))) (pss_one (ps_ret (pe_cmpR op_eq (pv 4) (pe_callB (cr_sum rfl) (by rfl) T.sum_ (by decide +kernel) (pa_cons (pe_lc (own := [("_law_step", 6)]) (g := gName 6) (tt := tYes) rfl sc__law_shortest_right.nd (pi_list (pv 5)) (blkOk_by (own := [("_law_step", 6)]) (N := ["_law_start", "_law_end_here", "_law_limits", "_law_long", "_law_found", "_law_steps", "_law_step"]) (sc := defScope s__law_shortest_right) (by decide +kernel)) (fun _ _ _ _ _ => (pg_name (i := 6) sc__law_shortest_right.nd rfl (Or.inl rfl))) (fun _ _ _ _ _ => pts_nil) (fun _ _ _ _ _ => (pe_callKF ck_count_shortest_paths (hr.mono (by decide)) (pa_cons (pe_callF c__law_after (hr.mono (by decide)) (pa_cons (pv 0) (pa_cons (pv 6) pa_nil))) (pa_cons (pv 1) pa_nil)) (pk_cons (pv 2) pk_nil)))) pa_nil)) (nomark _))))))))), ?_⟩)
  · obtain ⟨a, b, v, q, e, lo, hi, n0, rfl, _⟩ := h
    rfl
  · obtain ⟨a, b, v, q, e, lo, hi, n0, rfl, ha, hb, hv, i1, pth, hn0, k⟩ := h
    have i2 := pth.ends i1
    have nr := near_of pth (by omega)
    refine ⟨_, rfl, _, rfl, _, rfl, rfl, rfl, a, b, v, q, e, lo, hi, n0, rfl, ha, hb, hv, i1, nr, pth, fun d H1 s1 hD => ?_⟩
    have dle : d ≤ n0 := by
      obtain ⟨m, h1, h2⟩ := HS.exists_dist pth
      have := distN_uniq hD h2
      omega
    have pd := (HS.distN_iff.mp hD).1
    refine ⟨_, rfl, _, rfl, _, rfl, rfl, rfl, a, b, v, q, e, lo, hi, d, rfl, ha.mono s1, hb.mono s1, hv.mono s1, i1, hD, by omega, fun H2 s2 => ?_⟩
    have s12 := s1.trans s2
    refine ⟨_, rfl, _, rfl, cnt_repr (by omega), ?_⟩
    refine ⟨_, rfl, _, rfl, _, rfl, _, rfl, rfl, rfl, a, b, v, q, e, lo, hi, d, rfl, ha.mono s12, hb.mono s12, hv.mono s12, i1, i2, nr, by omega, fun H3 s3 => ?_⟩
    have s13 := s12.trans s3
    refine ⟨_, rfl, cnt_repr (by omega), rfl, _, rfl, ?_⟩
    refine ite2 (fun z => absurd z (by simp)) (fun _ => ?_)
    have ha3 := ha.mono s13
    have hb3 := hb.mono s13
    refine ⟨_, rfl, _, rfl, dSt q, dSt e, dSt_dp ha3, dSt_dp hb3, dSt_shaped q, dSt_shaped e, _, rfl, ?_⟩
    rw [dSt_eqv]
    refine ite2 (fun z => ?_) (fun z => ?_)
    · obtain rfl : q = e := of_decide_eq_true z
      obtain rfl : d = 0 := by
        have := (HS.distN_iff.mp hD).2 0
        apply Classical.byContradiction
        intro c
        exact this (by omega) (.nil q)
      refine ⟨_, rfl, rfl, ?_⟩
      have e1 : HS.cnt lo hi 0 q q = 1 := if_pos rfl
      rw [e1]
      exact k H3 s13
    · have ne : q ≠ e := fun y => z (decide_eq_true y)
      obtain ⟨m, rfl⟩ : ∃ m, d = m + 1 := by
        cases d with
        | zero =>
          cases pd
          exact absurd rfl ne
        | succ m => exact ⟨m, rfl⟩
      refine ⟨_, rfl, _, rfl, _, rfl, rfl, rfl, a, b, v, q, e, lo, hi, m, rfl, ha3, hb3, hv.mono s13, i1, hD, by omega, fun H4 p s4 hp => ?_⟩
      have s14 := s13.trans s4
      refine ⟨_, rfl, ?_⟩
      refine ⟨_, rfl, p, rfl, ⟨_, SqL.of hp⟩, fun D nD => lc_it walk_list (fun j H' => Same H4 H' ∧ H' D = some (.lst ((shorts lo hi e m q ((HS.steps.filter (nextS lo hi e m q)).take j)).map V.int))) ⟨same_new nD, upd_same⟩ (fun j H' _ h => h.1.seq (SqL.of hp)) ?_ ?_⟩
      · rintro j x H5 H5' hj ⟨s5, hD5⟩ ⟨rfl, hx⟩
        obtain ⟨st, rfl, hst⟩ : ∃ st, x = V.str (nm st) ∧ (HS.steps.filter (nextS lo hi e m q))[j]? = some st := by
          unfold nextL at hx
          rw [List.getElem?_map] at hx
          cases g : (HS.steps.filter (nextS lo hi e m q))[j]? with
          | none =>
            rw [g] at hx
            cases hx
          | some st =>
            rw [g] at hx
            exact ⟨st, (Option.some.inj hx).symm, rfl⟩
        have nx : nextS lo hi e m q st = true := (List.mem_filter.mp (List.mem_of_getElem? hst)).2
        have nx' := nx
        unfold nextS at nx'
        rw [Bool.and_eq_true] at nx'
        have s15 := s14.trans s5
        refine ⟨rfl, _, rfl, _, rfl, a, q, st, rfl, ha.mono s15, fun H6 u s6 hu => ?_⟩
        have s16 := s15.trans s6
        refine ⟨_, rfl, _, rfl, rfl, rfl, u, b, v, _, e, lo, hi, m, rfl, hu, hb.mono s16, hv.mono s16, nx'.1, HS.good_iff.mp nx'.2, by omega, fun H7 s7 => ?_⟩
        have hD7 := (s6.trans s7) _ _ hD5
        refine ⟨_, hD7, ?_, ?_, ?_⟩
        · unfold shorts
          rw [List.length_map, List.length_map, sizeLine_eq]
          have h1 := List.length_filter_le (nextS lo hi e m q) HS.steps
          have h2 : HS.steps.length = 4 := rfl
          have h3 : ((HS.steps.filter (nextS lo hi e m q)).take j).length ≤ (HS.steps.filter (nextS lo hi e m q)).length := List.length_take_le' _ _
          omega
        · intro b' o e'
          rw [upd_ne (ne_of_none e' nD)]
          exact (s5.trans (s6.trans s7)) _ _ e'
        · rw [upd_same, List.take_add_one, hst]
          unfold shorts
          simp
      · rintro H5 ⟨s5, hD5⟩
        have full : (HS.steps.filter (nextS lo hi e m q)).take (nextL lo hi e m q HS.steps).length = HS.steps.filter (nextS lo hi e m q) := by
          unfold nextL
          rw [List.length_map, List.take_length]
        rw [full] at hD5
        refine ⟨D, _, rfl, SqL.of hD5, rfl, ?_⟩
        rw [shorts_sum hD i1, decide_eq_true rfl]
        exact k H5 (s14.trans s5)
end
end Hs
set_option maxHeartbeats 4000000
namespace Hs
open PySem L2 HSR
/-! ### from both ends: the products' sum -/
def mids (T1 T2 : HS.Tab) : List Int := (T1.filter fun p => (HS.getT T2 p.1).isSome).map fun p => p.2 * (HS.getT T2 p.1).getD 0
theorem mids_sum (T2 : HS.Tab) : ∀ T1 : HS.Tab, (mids T1 T2).sum = HS.pair T1 fun q => (HS.getT T2 q).getD 0
  | [] => rfl
  | a :: T1 => by
    have ih := mids_sum T2 T1
    rw [HS.pair_cons, ← ih]
    unfold mids
    rw [List.filter_cons]
    cases g : HS.getT T2 a.1 with
    | none => simp
    | some m =>
      simp [g]
theorem mids_snoc (T1 T2 : HS.Tab) (p : HS.St × Int) : mids (T1 ++ [p]) T2 = if (HS.getT T2 p.1).isSome = true then mids T1 T2 ++ [p.2 * (HS.getT T2 p.1).getD 0] else mids T1 T2 := by
  unfold mids
  rw [List.filter_append, List.map_append, List.filter_cons]
  by_cases c : (HS.getT T2 p.1).isSome = true
  · rw [if_pos c, if_pos c]
    rfl
  · rw [if_neg c, if_neg c]
    simp
theorem mids_len (T1 T2 : HS.Tab) : (mids T1 T2).length ≤ T1.length := by
  unfold mids
  rw [List.length_map]
  exact List.length_filter_le _ _
theorem tab_cnt {T : HS.Tab} {q : HS.St} {n : Nat} (ok : HS.TabOk none none q n T) (hp : ∀ f, HS.pair T f = HS.iter none none f n q) (e : HS.St) : (HS.getT T e).getD 0 = HS.cnt none none n e q := by
  rw [← HS.pair_one ok.nd, hp, HS.iter_one]
theorem mids_cnt {T1 T2 : HS.Tab} {q e : HS.St} {n m : Nat} (ok1 : HS.TabOk none none q n T1) (hp1 : ∀ f, HS.pair T1 f = HS.iter none none f n q) (ok2 : HS.TabOk none none e m T2) (hp2 : ∀ f, HS.pair T2 f = HS.iter none none f m e) :
    (mids T1 T2).sum = HS.cnt none none (m + n) e q := by
  rw [mids_sum]
  have ef : (fun q => (HS.getT T2 q).getD 0) = HS.cnt none none m e := by
    funext r
    rw [tab_cnt ok2 hp2, HS.free_symm]
  rw [ef, hp1, HS.iter_cnt]
section
variable {P : Program} {w : World} {K : PySem.W.Frag} {mg : Str → Option Value} {base : Heap} {f : Addr} {fd : FuncData}
/-! ### _law_narrow_right -/
abbrev s__law_narrow_right : Stmt := top 60
theorem sc__law_narrow_right : FnScope ["_law_pool_here", "_law_start", "_law_low", "_law_ends_here", "_law_limits", "_law_end_here", "_law_turn", "_law_new", "_law_long"] ["_law_pool_here", "_law_start"] (defScope s__law_narrow_right) := ⟨rfl, rfl, rfl, by decide +kernel, rfl, by decide +kernel, by decide +kernel⟩
def spPS : Sp := fun vs H Q _ => ∃ (p a : Addr) (q : HS.St), vs = [.ref p, .ref a] ∧ PoolH H p ∧ StH H a q ∧ ∀ H', But p H H' → PoolH H' p → Q (.bl true) H'
theorem ok_narrow (T : Txt K mg) (ck_distance : KFn P w K mg base 8 2 "distance" ["start", "end", "band"] (spDist K)) (ck_count_shortest_paths : KFn P w K mg base 9 2 "count_shortest_paths" ["start", "end", "band"] (spShort K))
    (ck_count_paths : KFn P w K mg base 6 3 "count_paths" ["start", "end", "length", "band"] (spCount K)) (k_Band : Mkr P w K mg base 2 "Band" [] ["self", "low", "high"] (spBandInit K))
    (c__law_take : Fn P w K mg base 1 "_law_take" [] ["_law_pool_here", "_law_bound"] spTake) (c__law_after : Fn P w K mg base 1 "_law_after" [] ["_law_state", "_law_step"] spAfter) (c__law_inside : Fn P w K mg base 1 "_law_inside" [] ["_law_ends_here", "_law_level"] spInside)
    (F : FnP K "_law_narrow_right" s__law_narrow_right [] [] f fd) : FnOk P w K mg base CX0 10 f fd ["_law_pool_here", "_law_start"] spPS := by
  refine F.ok sc__law_narrow_right (fun vs H Q E h => ?_) (fun cdv A outer s H vs Q E hr h => ⟨_, PSs.nox (pss_cons (ps_set (i := 2) sc__law_narrow_right.nd rfl (Or.inl rfl) (pe_op op_sub (pe_ix ix_tup (pv 1) pe_int (fun _ _ => rfl)) (pe_callF c__law_take (hr.mono (by decide)) (pa_cons (pv 0) (pa_cons pe_int pa_nil))))) (pss_cons (ps_set (i := 3) sc__law_narrow_right.nd rfl (Or.inl rfl) (pe_tup (pa_cons (pv 2) (pa_cons (pe_op op_add (pe_ix ix_tup (pv 1) pe_int (fun _ _ => rfl)) pe_int) pa_nil)))) (pss_cons (ps_par (i := 4) (j := 5) (by rfl) sc__law_narrow_right.nd rfl rfl (by decide) rfl rfl (pa_cons (pe_makeF k_Band (hr.mono (by decide)) (pa_cons (pv 2) (pa_cons (pe_op op_add (pe_ix ix_tup (pv 1) pe_int (fun _ _ => rfl)) pe_int) pa_nil))) (pa_cons (pv 1) pa_nil)) (by rfl)) (pss_cons (ps_for PassesOwn.never rfl (pi_range1 (by rfl) T.range_ (pa_cons pe_int pa_nil)) (pg_name (i := 6) sc__law_narrow_right.nd rfl (Or.inl rfl)) (pss_cons (ps_set (i := 7) sc__law_narrow_right.nd rfl (Or.inl rfl) (pe_callF c__law_after (hr.mono (by decide)) (pa_cons (pv 5) (pa_cons (pe_ix ix_str pe_str (pe_callF c__law_take (hr.mono (by decide)) (pa_cons (pv 0) (pa_cons pe_int pa_nil))) (fun _ _ => rfl)) pa_nil)))) (pss_one (ps_if (pt_val (pe_callF c__law_inside (hr.mono (by decide)) (pa_cons (pv 3) (pa_cons (pe_ix ix_tup (pv 7) pe_int (fun _ _ => rfl)) pa_nil)))) (pss_one (ps_set (i := 5) sc__law_narrow_right.nd rfl (Or.inl rfl) (pv 7))) pss_nil)))) (pss_cons (ps_set (i := 8) sc__law_narrow_right.nd rfl (Or.inl rfl) (pe_callKF ck_distance (hr.mono (by decide)) (pa_cons (pv 1) (pa_cons (pv 5) pa_nil)) (pk_cons (pv 4) pk_nil))) (pss_one (ps_ret (pe_cmpR op_eq (pe_callKF ck_count_shortest_paths (hr.mono (by decide)) (pa_cons (pv 1) (pa_cons (pv 5) pa_nil)) (pk_cons (pv 4) pk_nil)) (pe_callKF ck_count_paths (hr.mono (by decide)) (pa_cons (pv 1) (pa_cons (pv 5) (pa_cons (pv 8) pa_nil))) (pk_cons (pv 4) pk_nil)) (nomark _))))))))), ?_⟩)
  · obtain ⟨p, a, q, rfl, _⟩ := h
    rfl
  · obtain ⟨p, a, q, rfl, hp, ha, k⟩ := h
    refine ⟨_, rfl, a, _, _, _, rfl, rfl, SqT.of ha, atI_nat (j := 1) rfl, ?_⟩
    refine ⟨_, rfl, p, 2, rfl, hp, by decide, by decide, fun r H1 r0 r1 b1 hp1 => ?_⟩
    have ha1 := b1.st hp ha
    refine ⟨_, _, rfl, rfl, ?_⟩
    refine ⟨_, rfl, _, rfl, a, _, _, _, rfl, rfl, SqT.of ha1, atI_nat (j := 1) rfl, _, _, rfl, rfl, by show 2 ≤ sizeLine; decide, fun t nt => ?_⟩
    have s2 := same_new (o := .tup [.int (q.2.1 - r), .int (q.2.1 + 1)]) nt
    have ht : EndsH (upd H1 t (.tup [.int (q.2.1 - r), .int (q.2.1 + 1)])) t (some (q.2.1 - r)) (some (q.2.1 + 1)) := upd_same
    generalize upd H1 t (.tup [.int (q.2.1 - r), .int (q.2.1 + 1)]) = H2 at s2 ht
    have ha2 := ha1.mono s2
    refine ⟨_, rfl, _, rfl, a, _, _, _, rfl, rfl, SqT.of ha2, atI_nat (j := 1) rfl, _, _, rfl, rfl, fun l dx nl ndx ne => ?_⟩
    refine ⟨l, dx, some (q.2.1 - r), some (q.2.1 + 1), rfl, upd_same, (fun x y e1 e2 => by have := Option.some.inj e1; have := Option.some.inj e2; omega), fun H3 keep hB => ⟨rfl, ?_⟩⟩
    have s3 := made_same nl ndx keep
    refine ⟨_, rfl, _, _, rfl, ?_⟩
    have s23 := s2.trans s3
    have b3 : But p H H3 := b1.trans (But.of s23)
    have hp3 := hp1.mono s23
    have i1 : HS.ins (some (q.2.1 - r)) (some (q.2.1 + 1)) q.2.1 = true := HS.ins_iff.mpr ⟨fun x e => by have := Option.some.inj e; omega, fun x e => by have := Option.some.inj e; omega⟩
    have ht3 := ht.mono s3
    have ha3 := ha2.mono s3
    generalize (some (q.2.1 - r) : Option Int) = lo at ht3 hB i1
    generalize (some (q.2.1 + 1) : Option Int) = hi at ht3 hB i1
    refine ⟨10, rfl, by decide, by decide, for_range (lo := 0) (n := 10) (fun i σ H' => ∃ (b : Addr) (e : HS.St) (n : Nat) (v2 v6 v7 v8 : Option V), σ = [some (.ref p), some (.ref a), v2, some (.ref t), some (.ref l), some (.ref b), v6, v7, v8] ∧ n ≤ i ∧ HS.Pth lo hi n q e ∧ But p H H' ∧ PoolH H' p ∧ StH H' a q ∧ StH H' b e ∧ EndsH H' t lo hi ∧ BandH K H' l lo hi) ⟨a, q, 0, _, _, _, _, rfl, Nat.le_refl 0, .nil q, b3, hp3, ha3, ha3, ht3, hB⟩ ?_ ?_⟩
    · rintro i σ H4 hi2 ⟨b, e, n, v2, v6, v7, v8, rfl, hn, pth, b4, hp4, ha4, hb4, ht4, hB4⟩
      refine ⟨_, rfl, ?_⟩
      refine ⟨_, rfl, p, 4, rfl, hp4, by decide, by decide, fun r H5 r0 r4 b5 hp5 => ?_⟩
      obtain ⟨c, z, hz, hc⟩ := letter r0 r4
      refine ⟨_, _, z, rfl, rfl, by show 4 ≤ sizeLine; decide, hz, ?_⟩
      have hb5 := b5.st hp4 hb4
      rw [hc]
      refine ⟨b, e, c, rfl, hb5, fun H6 g s6 hg => ?_⟩
      have ht6 : EndsH H6 t lo hi := (EndsH.but b5 hp4 ht4).mono s6
      have ha6 := (b5.st hp4 ha4).mono s6
      have hB6 := (BandH.but b5 hp4 hB4).mono s6
      have b6 := (b4.trans b5).trans (But.of s6)
      refine ⟨_, rfl, _, rfl, g, _, _, _, rfl, rfl, SqT.of hg, atI_nat (j := 1) rfl, t, lo, hi, _, rfl, ht6, _, rfl, ?_⟩
      refine ite2 (fun y => ?_) (fun y => ?_)
      · exact ⟨_, rfl, g, _, n + 1, _, _, _, _, rfl, by omega, HS.pth_snoc pth c y, b6, hp5.mono s6, ha6, hg, ht6, hB6⟩
      · exact ⟨b, e, n, _, _, _, _, rfl, by omega, pth, b6, hp5.mono s6, ha6, s6 _ _ hb5, ht6, hB6⟩
    · rintro σ H4 ⟨b, e, n, v2, v6, v7, v8, rfl, hn, pth, b4, hp4, ha4, hb4, ht4, hB4⟩
      have i2 := pth.ends i1
      have nr := near_of pth (by omega)
      have hv : ∀ {H'}, Same H4 H' → BandV K H' (.ref l) lo hi := fun s => .inr ⟨l, rfl, hB4.mono s⟩
      refine ⟨_, rfl, _, rfl, _, rfl, rfl, rfl, a, b, .ref l, q, e, lo, hi, n, rfl, ha4, hb4, hv (Same.refl H4), i1, nr, pth, fun d H5 s5 hD => ?_⟩
      have dle : d ≤ n := by
        obtain ⟨m, h1, h2⟩ := HS.exists_dist pth
        have := distN_uniq hD h2
        omega
      refine ⟨_, rfl, _, rfl, _, rfl, rfl, rfl, a, b, .ref l, q, e, lo, hi, d, rfl, ha4.mono s5, hb4.mono s5, hv s5, i1, hD, by omega, fun H6 s6 => ?_⟩
      have s56 := s5.trans s6
      refine ⟨_, rfl, _, rfl, _, rfl, _, rfl, rfl, rfl, a, b, .ref l, q, e, lo, hi, d, rfl, ha4.mono s56, hb4.mono s56, hv s56, i1, i2, nr, by omega, fun H7 s7 => ?_⟩
      refine ⟨rfl, ?_⟩
      rw [decide_eq_true rfl]
      have s57 := s56.trans s7
      exact k H7 (b4.trans (But.of s57)) (hp4.mono s57)
/-! ### _law_middle_right -/
abbrev s__law_middle_right : Stmt := top 62
theorem sc__law_middle_right : FnScope ["_law_pool_here", "_law_start", "_law_end_here", "_law_length", "_law_table_here", "_law_other", "_law_due", "_law_state"] ["_law_pool_here", "_law_start"] (defScope s__law_middle_right) := ⟨rfl, rfl, rfl, by decide +kernel, rfl, by decide +kernel, by decide +kernel⟩
theorem four_pow {n : Nat} (h : n ≤ 10) : (4 : Nat) ^ n ≤ 1048576 := Nat.le_trans (Nat.pow_le_pow_right (by decide) h) (by decide)
theorem cnt_box {lo hi : Option Int} {n : Nat} {e q : HS.St} (h : n ≤ 10) : 0 ≤ HS.cnt lo hi n e q ∧ HS.cnt lo hi n e q ≤ 1048576 := by
  have h1 := cnt_le (lo := lo) (hi := hi) n e q
  have h2 := HS.cnt_nonneg (lo := lo) (hi := hi) n e q
  have h3 := four_pow h
  generalize 4 ^ n = N at h1 h3
  omega
theorem ok_middle (T : Txt K mg) (c_count_paths : Fn P w K mg base 6 "count_paths" [.non] ["start", "end", "length", "band"] (spCount K)) (c__law_take : Fn P w K mg base 1 "_law_take" [] ["_law_pool_here", "_law_bound"] spTake)
    (c__law_end : Fn P w K mg base 2 "_law_end" [] ["_law_pool_here", "_law_start", "_law_ends_here"] spEnd) (c__law_table : Fn P w K mg base 2 "_law_table" [] ["_law_start", "_law_count"] spTable)
    (F : FnP K "_law_middle_right" s__law_middle_right [] [] f fd) : FnOk P w K mg base CX0 7 f fd ["_law_pool_here", "_law_start"] spPS := by
  refine F.ok sc__law_middle_right (fun vs H Q E h => ?_) (fun cdv A outer s H vs Q E hr h => ⟨_, PSs.nox (pss_cons (ps_if (pt_cmpR op_gt (pe_callF c__law_take (hr.mono (by decide)) (pa_cons (pv 0) (pa_cons pe_int pa_nil))) pe_int (nomark _)) (pss_one (ps_ret pe_bl)) pss_nil) (pss_cons (ps_set (i := 2) sc__law_middle_right.nd rfl (Or.inl rfl) (pe_callF c__law_end (hr.mono (by decide)) (pa_cons (pv 0) (pa_cons (pv 1) (pa_cons (pe_tup (pa_cons pe_non (pa_cons pe_non pa_nil))) pa_nil))))) (pss_cons (ps_set (i := 3) sc__law_middle_right.nd rfl (Or.inl rfl) (pe_op op_add pe_int (pe_callF c__law_take (hr.mono (by decide)) (pa_cons (pv 0) (pa_cons pe_int pa_nil))))) (pss_cons (ps_asg (pe_tup (pa_cons (pe_callF c__law_table (hr.mono (by decide)) (pa_cons (pv 1) (pa_cons (pe_op op_sub (pv 3) pe_int) pa_nil))) (pa_cons (pe_callF c__law_table (hr.mono (by decide)) (pa_cons (pv 2) (pa_cons pe_int pa_nil))) pa_nil))) (pg_tup rfl (pgs_cons (pg_name (i := 4) sc__law_middle_right.nd rfl (Or.inr rfl)) (pgs_cons (pg_name (i := 5) sc__law_middle_right.nd rfl (Or.inr rfl)) pgs_nil)))) (pss_cons (ps_set (i := 6) sc__law_middle_right.nd rfl (Or.inl rfl) (pe_callB (cr_sum rfl) (by rfl) T.sum_ (by decide +kernel) (pa_cons (pe_lock (pe_lc (own := [("_law_state", 7)]) (g := gName 7) rfl sc__law_middle_right.nd (pi_keys (pv 4)) (blkOk_by (own := [("_law_state", 7)]) (N := ["_law_pool_here", "_law_start", "_law_end_here", "_law_length", "_law_table_here", "_law_other", "_law_due", "_law_state"]) (sc := defScope s__law_middle_right) (by decide +kernel)) (fun _ _ _ _ _ => (pg_name (i := 7) sc__law_middle_right.nd rfl (Or.inl rfl))) (fun _ _ _ _ _ => (pts_one (pt_cmp (pc_din (hu_of hr) (pv 7) (pv 5))))) (fun _ _ _ _ _ => (pe_op op_mul (pe_dget (hu_of hr) (pv 4) (pv 7) (fun _ _ => rfl)) (pe_dget (hu_of hr) (pv 5) (pv 7) (fun _ _ => rfl)))))) pa_nil))) (pss_one (ps_ret (pe_cmpR op_eq (pe_callF c_count_paths (hr.mono (by decide)) (pa_cons (pv 1) (pa_cons (pv 2) (pa_cons (pv 3) pa_nil)))) (pv 6) (nomark _))))))))), ?_⟩)
  · obtain ⟨p, a, q, rfl, _⟩ := h
    rfl
  · obtain ⟨p, a, q, rfl, hp, ha, k⟩ := h
    refine ⟨_, rfl, p, 3, rfl, hp, by decide, by decide, fun r H1 r0 r1 b1 hp1 => ?_⟩
    refine ⟨_, _, rfl, rfl, _, rfl, ?_⟩
    refine ite2 (fun _ => k H1 b1 hp1) (fun _ => ?_)
    have ha1 := b1.st hp ha
    refine ⟨_, rfl, _, rfl, by show 2 ≤ sizeLine; decide, fun t nt => ?_⟩
    have s2 := same_new (o := .tup [.non, .non]) nt
    refine ⟨p, a, t, q, none, none, rfl, hp1.mono s2, ha1.mono s2, upd_same, rfl, fun e b n H3 hn pth b3 hp3 hb3 => ?_⟩
    have ha3 := b3.st (hp1.mono s2) (ha1.mono s2)
    have b03 := (b1.trans (But.of s2)).trans b3
    refine ⟨_, rfl, p, 2, rfl, hp3, by decide, by decide, fun r H4 r0 r1 b4 hp4 => ?_⟩
    obtain ⟨rn, rfl⟩ : ∃ rn : Nat, r = (rn : Int) := ⟨r.toNat, by omega⟩
    have ha4 := b4.st hp3 ha3
    have hb4 := b4.st hp3 hb3
    have b04 := b03.trans b4
    refine ⟨_, _, rfl, rfl, ?_⟩
    refine ⟨_, rfl, _, rfl, _, _, rfl, rfl, a, q, 4 + rn, ?_, ha4, by omega, fun H5 c1 T1 s5 nc1 hc1 ok1 hp1' => ?_⟩
    · show [V.ref a, V.int (9 + (rn : Int) - 5)] = _
      rw [show (9 + (rn : Int) - 5) = ((4 + rn : Nat) : Int) by omega]
    refine ⟨_, rfl, b, e, 5, rfl, hb4.mono s5, by decide, fun H6 c2 T2 s6 nc2 hc2 ok2 hp2' => ?_⟩
    have hc1' := s6 _ _ hc1
    have n21 : c2 ≠ c1 := (ne_of_none hc1 nc2).symm
    refine ⟨by show 2 ≤ sizeLine; decide, fun z nz => ?_⟩
    have s7 := same_new (o := .tup [.ref c1, .ref c2]) nz
    have hz : (upd H6 z (.tup [.ref c1, .ref c2])) z = some (.tup [.ref c1, .ref c2]) := upd_same
    generalize upd H6 z (.tup [.ref c1, .ref c2]) = H7 at s7 hz
    refine ⟨z, _, rfl, SqT.of hz, rfl, _, _, rfl, _, _, rfl, rfl, ?_⟩
    have s57 := (s5.trans s6).trans s7
    have hc1 := s7 _ _ hc1'
    have hc2 := s7 _ _ hc2
    refine ⟨c1, .dT (T1.map ent), hc1, True.intro, fun od => ?_⟩
    refine ⟨_, rfl, c1, od, rfl, .inr ⟨T1.map ent, upd_same, fun D nD => ?_⟩⟩
    have nD1 : D ≠ c1 := fun y => by
      rw [y, upd_same] at nD
      cases nD
    have nD7 : H7 D = none := by
      rw [upd_ne nD1] at nD
      exact nD
    have small := HS.tab_small ok1 (by omega)
    refine lc_it walk_keysT (fun j H' => (∀ b o, b ≠ c1 → H7 b = some o → H' b = some o) ∧ H' c1 = some (.frz od (.dT (T1.map ent))) ∧ H' D = some (.lst ((mids (T1.take j) T2).map V.int))) ⟨fun b o hb e => ?_, ?_, upd_same⟩ (fun j H' _ h => h.2.1) ?_ ?_
    · rw [upd_ne (ne_of_none e nD7), upd_ne hb]
      exact e
    · rw [upd_ne nD1.symm, upd_same]
    · rintro j x H8 H8' hj ⟨keep, hfc, hD⟩ ⟨rfl, kk, vv, qa, hk, rfl, hqa⟩
      rw [List.getElem?_map] at hk
      cases hT : T1[j]? with
      | none =>
        rw [hT] at hk
        cases hk
      | some pr =>
      obtain ⟨q', m⟩ := pr
      rw [hT] at hk
      obtain ⟨rfl, rfl⟩ := Prod.mk.inj (Option.some.inj hk).symm
      have mem := List.mem_of_getElem? hT
      have tk : T1.take (j + 1) = T1.take j ++ [(q', m)] := by
        rw [List.take_add_one, hT]
        rfl
      have hc28 := keep c2 _ n21 hc2
      have g1 := getT_of ok1.nd mem
      have e1 : valV (T1.map ent) (key q') = some (V.int m) := by
        rw [val_ent, g1]
        rfl
      refine ⟨rfl, _, rfl, _, rfl, c2, _, rfl, DGet.t (k := key q') hc28 hqa, _, rfl, ?_⟩
      rw [val_ent]
      cases g2 : HS.getT T2 q' with
      | none =>
        refine ⟨keep, hfc, ?_⟩
        rw [tk, mids_snoc, if_neg (by rw [g2]; decide)]
        exact hD
      | some m2 =>
        have bm : 0 ≤ m ∧ m ≤ 1048576 := by
          have := tab_cnt ok1 hp1' q'
          rw [g1] at this
          have e2 : m = HS.cnt none none (4 + rn) q' q := this
          rw [e2]
          exact cnt_box (by omega)
        have e2 : valV (T2.map ent) (key q') = some (V.int m2) := by
          rw [val_ent, g2]
          rfl
        refine ⟨_, rfl, _, rfl, c1, _, rfl, (by rw [← e1]; exact dgetF (k := key q') hfc hqa), ?_⟩
        refine ⟨_, rfl, _, rfl, c2, _, rfl, (by rw [← e2]; exact DGet.t (k := key q') hc28 hqa), ?_⟩
        refine ⟨_, _, rfl, rfl, .inl ⟨by omega, by omega⟩, ?_⟩
        refine ⟨_, hD, ?_, ?_, ?_, ?_⟩
        · rw [List.length_map, sizeLine_eq]
          have h1 := mids_len (T1.take j) T2
          have h2 : (T1.take j).length ≤ T1.length := List.length_take_le' _ _
          omega
        · intro b' o hb e
          rw [upd_ne (ne_of_none e nD7)]
          exact keep b' o hb e
        · rw [upd_ne nD1.symm]
          exact hfc
        · rw [upd_same, tk, mids_snoc, if_pos (by rw [g2]; rfl), List.map_append, g2]
          rfl
    · rintro H8 ⟨keep, hfc, hD⟩
      have s8 : Same H7 (upd H8 c1 (.dT (T1.map ent))) := lock_back hc1 keep
      refine ⟨hfc, D, mids T1 T2, rfl, ?_, ?_⟩
      · refine SqL.of ?_
        rw [upd_ne nD1]
        rw [List.length_map, List.take_length] at hD
        exact hD
      · have s58 := s57.trans s8
        refine ⟨_, rfl, _, rfl, _, rfl, a, b, .non, q, e, none, none, 9 + rn, rfl, ha4.mono s58, hb4.mono s58, .inl ⟨rfl, rfl, rfl⟩, rfl, rfl, near_of pth (by omega), by omega, fun H9 s9 => ?_⟩
        refine ⟨_, rfl, rfl, ?_⟩
        rw [mids_cnt ok1 hp1' ok2 hp2', show 5 + (4 + rn) = 9 + rn by omega, decide_eq_true rfl]
        have s59 := s58.trans s9
        exact k H9 (b04.trans (But.of s59)) (hp4.mono s59)
end
end Hs
set_option maxHeartbeats 4000000
namespace Hs
open PySem L2 HSR
theorem seq_join {t u : TS} {D : Ends} {σ : L2.St} {H : Hp} (Pv : L2.St → Hp → Prop) (h2 : ∀ σ H, Pv σ H → u D σ H) (h1 : ∀ N : L2.St → Hp → Prop, (∀ σ H, Pv σ H → N σ H) → t { D with nx := N } σ H) : tSeq t u D σ H := h1 _ h2
/-! ### the ends one or two heights up -/
theorem up_bare {q : HS.St} {a n : Nat} {S : Int} : HS.bare q (HS.up q a n S) = ((a + n : Nat) : Int) := by
  unfold HS.bare HS.dX HS.dH HS.up
  simp only
  omega
theorem up_dist {q : HS.St} {a n : Nat} {S : Int} (h : 0 < HS.cnt none none (a + n) (HS.up q a n S) q) : HS.DistN none none (a + n) q (HS.up q a n S) := by
  rw [HS.distN_iff]
  refine ⟨HS.cnt_pos.mp h, fun m hm p => ?_⟩
  have := HS.pth_len p
  rw [up_bare] at this
  omega
theorem two_pos : ∀ a < 10, ∀ S < 20, S ≤ 2 * a → 0 < HS.two a ((S : Nat) : Int) := by decide +kernel
theorem up1_cnt {q : HS.St} {a : Nat} {S : Int} (h0 : 0 ≤ S) (h1 : S ≤ a) : HS.cnt none none (a + 1) (HS.up q a 1 S) q = 1 := by
  rw [HS.cnt_up1, if_pos ⟨h0, h1⟩]
section
variable {P : Program} {w : World} {K : PySem.W.Frag} {mg : Str → Option Value} {base : Heap} {f : Addr} {fd : FuncData}
/-! ### _law_long_right -/
abbrev s__law_long_right : Stmt := top 63
theorem sc__law_long_right : FnScope ["_law_pool_here", "_law_start", "_law_ends_here", "_law_limits", "_law_length", "_law_end_here", "_law_parts", "_law_along", "_law_up", "_law_total", "_law_due", "_law_step", "_law_state", "_law_low"] ["_law_pool_here", "_law_start", "_law_ends_here", "_law_limits"] (defScope s__law_long_right) := ⟨rfl, rfl, rfl, by decide +kernel, rfl, by decide +kernel, by decide +kernel⟩
def spLong (K : PySem.W.Frag) : Sp := fun vs H Q _ => ∃ (p a t l : Addr) (q : HS.St) (lo hi : Option Int), vs = [.ref p, .ref a, .ref t, .ref l] ∧ PoolH H p ∧ StH H a q ∧ EndsH H t lo hi ∧ BandH K H l lo hi ∧ HS.ins lo hi q.2.1 = true ∧ ∀ H', But p H H' → PoolH H' p → Q (.bl true) H'
theorem ok_long (T : Txt K mg) (ck_count_paths : KFn P w K mg base 6 3 "count_paths" ["start", "end", "length", "band"] (spCount K)) (c_count_shortest_paths : Fn P w K mg base 9 "count_shortest_paths" [.non] ["start", "end", "band"] (spShort K))
    (k_Band : Mkr P w K mg base 2 "Band" [] ["self", "low", "high"] (spBandInit K)) (c__law_end : Fn P w K mg base 2 "_law_end" [] ["_law_pool_here", "_law_start", "_law_ends_here"] spEnd)
    (c__law_narrow_right : Fn P w K mg base 10 "_law_narrow_right" [] ["_law_pool_here", "_law_start"] spPS) (c__law_middle_right : Fn P w K mg base 7 "_law_middle_right" [] ["_law_pool_here", "_law_start"] spPS)
    (c__law_take : Fn P w K mg base 1 "_law_take" [] ["_law_pool_here", "_law_bound"] spTake) (c__law_after : Fn P w K mg base 1 "_law_after" [] ["_law_state", "_law_step"] spAfter) (c__law_inside : Fn P w K mg base 1 "_law_inside" [] ["_law_ends_here", "_law_level"] spInside)
    (F : FnP K "_law_long_right" s__law_long_right [] [] f fd) : FnOk P w K mg base CX0 11 f fd ["_law_pool_here", "_law_start", "_law_ends_here", "_law_limits"] (spLong K) := by
  refine F.ok sc__law_long_right (fun vs H Q E h => ?_) (fun cdv A outer s H vs Q E hr h => ⟨_, PSs.nox (pss_cons (ps_set (i := 4) sc__law_long_right.nd rfl (Or.inr rfl) (pe_op op_add pe_int (pe_callF c__law_take (hr.mono (by decide)) (pa_cons (pv 0) (pa_cons pe_int pa_nil))))) (pss_cons (ps_if (pt_cmpR op_gt (pv 4) pe_int (nomark _)) (pss_one (ps_asg (pe_tup (pa_cons (pe_tup (pa_cons (pe_ix ix_tup (pv 1) pe_int (fun _ _ => rfl)) (pa_cons (pe_op op_add (pe_ix ix_tup (pv 1) pe_int (fun _ _ => rfl)) pe_int) pa_nil))) (pa_cons (pe_makeF k_Band (hr.mono (by decide)) (pa_cons (pe_ix ix_tup (pv 1) pe_int (fun _ _ => rfl)) (pa_cons (pe_op op_add (pe_ix ix_tup (pv 1) pe_int (fun _ _ => rfl)) pe_int) pa_nil))) pa_nil))) (pg_tup rfl (pgs_cons (pg_name (i := 2) sc__law_long_right.nd rfl (Or.inr rfl)) (pgs_cons (pg_name (i := 3) sc__law_long_right.nd rfl (Or.inr rfl)) pgs_nil))))) pss_nil) (pss_cons (ps_set (i := 5) sc__law_long_right.nd rfl (Or.inr rfl) (pe_callF c__law_end (hr.mono (by decide)) (pa_cons (pv 0) (pa_cons (pv 1) (pa_cons (pv 2) pa_nil))))) (pss_cons (ps_setLc (i := 6) (own := [("_law_step", 11)]) (g := gName 11) (tt := tYes) rfl sc__law_long_right.nd rfl rfl (sw_true rfl rfl rfl (by decide +kernel)) (pi_str pe_str) (blkOk_by (own := [("_law_step", 11)]) (N := ["_law_pool_here", "_law_start", "_law_ends_here", "_law_limits", "_law_length", "_law_end_here", "_law_parts", "_law_along", "_law_up", "_law_total", "_law_due", "_law_step", "_law_state", "_law_low"]) (sc := defScope s__law_long_right) (by decide +kernel)) (fun _ _ _ _ _ => (pg_name (i := 11) sc__law_long_right.nd rfl (Or.inl rfl))) (fun _ _ _ _ _ => pts_nil) (fun _ _ _ _ _ => (pe_callF c__law_after (hr.mono (by decide)) (pa_cons (pv 1) (pa_cons (pv 11) pa_nil))))) (pss_cons (ps_setLc (i := 6) (own := [("_law_state", 12)]) (g := gName 12) rfl sc__law_long_right.nd rfl rfl (sw_true rfl rfl rfl (by decide +kernel)) (pi_list (pv 6)) (blkOk_by (own := [("_law_state", 12)]) (N := ["_law_pool_here", "_law_start", "_law_ends_here", "_law_limits", "_law_length", "_law_end_here", "_law_parts", "_law_along", "_law_up", "_law_total", "_law_due", "_law_step", "_law_state", "_law_low"]) (sc := defScope s__law_long_right) (by decide +kernel)) (fun _ _ _ _ _ => (pg_name (i := 12) sc__law_long_right.nd rfl (Or.inl rfl))) (fun _ _ _ _ _ => (pts_one (pt_val (pe_callF c__law_inside (hr.mono (by decide)) (pa_cons (pv 2) (pa_cons (pe_ix (r := rIxT K) ix_tup (pv 12) pe_int (fun _ _ => rfl)) pa_nil)))))) (fun _ _ _ _ _ => (pe_callKF ck_count_paths (hr.mono (by decide)) (pa_cons (pv 12) (pa_cons (pv 5) (pa_cons (pe_op op_sub (pv 4) pe_int) pa_nil))) (pk_cons (pv 3) pk_nil)))) (pss_cons (ps_if (pt_cmpR op_ne (pe_callKF ck_count_paths (hr.mono (by decide)) (pa_cons (pv 1) (pa_cons (pv 5) (pa_cons (pv 4) pa_nil))) (pk_cons (pv 3) pk_nil)) (pe_callB (cr_sum rfl) (by rfl) T.sum_ (by decide +kernel) (pa_cons (pv 6) pa_nil)) (nomark _)) (pss_one (ps_ret pe_bl)) pss_nil) (pss_cons (ps_if (PW.pt (pw_or (pt_not (pt_val (pe_callF c__law_narrow_right (hr.mono (by decide)) (pa_cons (pv 0) (pa_cons (pv 1) pa_nil))))) (pw_or1 (pt_not (pt_val (pe_callF c__law_middle_right (hr.mono (by decide)) (pa_cons (pv 0) (pa_cons (pv 1) pa_nil)))))))) (pss_one (ps_ret pe_bl)) pss_nil) (pss_cons (ps_asg (pe_tup (pa_cons (pe_op op_add pe_int (pe_callF c__law_take (hr.mono (by decide)) (pa_cons (pv 0) (pa_cons pe_int pa_nil)))) (pa_cons (pe_callF c__law_take (hr.mono (by decide)) (pa_cons (pv 0) (pa_cons pe_int pa_nil))) pa_nil))) (pg_tup rfl (pgs_cons (pg_name (i := 7) sc__law_long_right.nd rfl (Or.inr rfl)) (pgs_cons (pg_name (i := 8) sc__law_long_right.nd rfl (Or.inl rfl)) pgs_nil)))) (pss_cons (ps_set (i := 5) sc__law_long_right.nd rfl (Or.inr rfl) (pe_tup (pa_cons (pe_op op_add (pe_ix ix_tup (pv 1) pe_int (fun _ _ => rfl)) (pv 7)) (pa_cons (pe_op op_add (pe_ix ix_tup (pv 1) pe_int (fun _ _ => rfl)) pe_int) (pa_cons (pe_op op_add (pe_op op_add (pe_ix ix_tup (pv 1) pe_int (fun _ _ => rfl)) (pe_op op_mul (pe_ix ix_tup (pv 1) pe_int (fun _ _ => rfl)) (pv 7))) (pe_callB (call_min2 rfl) (by rfl) T.min_ (by decide +kernel) (pa_cons (pv 8) (pa_cons (pv 7) pa_nil)))) pa_nil))))) (pss_cons (ps_if (pt_cmpR op_ne (pe_callF c_count_shortest_paths (hr.mono (by decide)) (pa_cons (pv 1) (pa_cons (pv 5) pa_nil))) pe_int (nomark _)) (pss_one (ps_ret pe_bl)) pss_nil) (pss_cons (ps_set (i := 7) sc__law_long_right.nd rfl (Or.inr rfl) (pe_op op_add pe_int (pe_callF c__law_take (hr.mono (by decide)) (pa_cons (pv 0) (pa_cons pe_int pa_nil))))) (pss_cons (ps_set (i := 9) sc__law_long_right.nd rfl (Or.inr rfl) (pe_callF c__law_take (hr.mono (by decide)) (pa_cons (pv 0) (pa_cons (pe_op op_add (pe_op op_mul pe_int (pv 7)) pe_int) pa_nil)))) (pss_cons (ps_set (i := 10) sc__law_long_right.nd rfl (Or.inl rfl) (pe_callB call_len_seq (by rfl) T.len_ (by decide +kernel) (pa_cons (pe_lc (own := [("_law_low", 13)]) (g := gName 13) rfl sc__law_long_right.nd (pi_range1 (by rfl) T.range_ (pa_cons (pe_op op_add (pv 7) pe_int) pa_nil)) (blkOk_by (own := [("_law_low", 13)]) (N := ["_law_pool_here", "_law_start", "_law_ends_here", "_law_limits", "_law_length", "_law_end_here", "_law_parts", "_law_along", "_law_up", "_law_total", "_law_due", "_law_step", "_law_state", "_law_low"]) (sc := defScope s__law_long_right) (by decide +kernel)) (fun _ _ _ _ _ => (pg_name (i := 13) sc__law_long_right.nd rfl (Or.inl rfl))) (fun _ _ _ _ _ => (pts_one (pt_chain op_le op_le (pv 13) (pe_op op_sub (pv 9) (pv 13)) (pv 7)))) (fun _ _ _ _ _ => (pv 13))) pa_nil))) (pss_one (ps_ret (pe_cmpR op_eq (pe_callF c_count_shortest_paths (hr.mono (by decide)) (pa_cons (pv 1) (pa_cons (pe_tup (pa_cons (pe_op op_add (pe_ix ix_tup (pv 1) pe_int (fun _ _ => rfl)) (pv 7)) (pa_cons (pe_op op_add (pe_ix ix_tup (pv 1) pe_int (fun _ _ => rfl)) pe_int) (pa_cons (pe_op op_add (pe_op op_add (pe_ix ix_tup (pv 1) pe_int (fun _ _ => rfl)) (pe_op op_mul (pe_ix ix_tup (pv 1) pe_int (fun _ _ => rfl)) (pv 7))) (pv 9)) pa_nil)))) pa_nil))) (pv 10) (nomark _))))))))))))))))), ?_⟩)
  · obtain ⟨p, a, t, l, q, lo, hi, rfl, _⟩ := h
    rfl
  · obtain ⟨p, a, t, l, q, lo, hi, rfl, hp, ha, ht, hB, i1, k⟩ := h
    refine ⟨_, rfl, p, 4, rfl, hp, by decide, by decide, fun r H1 r0 r1 b1 hp1 => ?_⟩
    obtain ⟨rn, rfl⟩ : ∃ rn : Nat, r = (rn : Int) := ⟨r.toNat, by omega⟩
    have ha1 := b1.st hp ha
    refine ⟨_, _, rfl, rfl, ?_⟩
    dsimp only [gName]
    refine seq_join (fun σ H' => ∃ (t l : Addr) (lo hi : Option Int), σ = [some (.ref p), some (.ref a), some (.ref t), some (.ref l), some (.int (7 + (rn : Int))), none, none, none, none, none, none, none, none, none] ∧ But p H H' ∧ PoolH H' p ∧ StH H' a q ∧ EndsH H' t lo hi ∧ BandH K H' l lo hi ∧ HS.ins lo hi q.2.1 = true) ?_ (fun N hN => ?_)
    rotate_left
    · refine ⟨_, rfl, _, _, rfl, rfl, _, rfl, ?_⟩
      refine ite2 (fun _ => ?_) (fun _ => ?_)
      · refine ⟨_, rfl, a, _, _, _, rfl, rfl, SqT.of ha1, atI_nat (j := 1) rfl, ?_⟩
        refine ⟨_, rfl, a, _, _, _, rfl, rfl, SqT.of ha1, atI_nat (j := 1) rfl, _, _, rfl, rfl, by show 2 ≤ sizeLine; decide, fun t2 nt2 => ?_⟩
        have s2 := same_new (o := .tup [.int q.2.1, .int (q.2.1 + 1)]) nt2
        have ht2 : EndsH (upd H1 t2 (.tup [.int q.2.1, .int (q.2.1 + 1)])) t2 (some q.2.1) (some (q.2.1 + 1)) := upd_same
        have ha2 := ha1.mono s2
        refine ⟨_, rfl, a, _, _, _, rfl, rfl, SqT.of ha2, atI_nat (j := 1) rfl, ?_⟩
        refine ⟨_, rfl, a, _, _, _, rfl, rfl, SqT.of ha2, atI_nat (j := 1) rfl, _, _, rfl, rfl, fun l2 dx nl ndx ne => ?_⟩
        refine ⟨l2, dx, some q.2.1, some (q.2.1 + 1), rfl, upd_same, (fun x y e1 e2 => by have := Option.some.inj e1; have := Option.some.inj e2; omega), fun H3 keep hB => ⟨rfl, ?_⟩⟩
        have s3 := made_same nl ndx keep
        refine ⟨by show 2 ≤ sizeLine; decide, fun z nz => ?_⟩
        have s4 := same_new (o := .tup [.ref t2, .ref l2]) nz
        refine ⟨z, _, rfl, SqT.of upd_same, rfl, _, _, rfl, _, _, rfl, rfl, ?_⟩
        have s24 := (s2.trans s3).trans s4
        exact hN _ _ ⟨t2, l2, _, _, rfl, b1.trans (But.of s24), hp1.mono s24, ha1.mono s24, ht2.mono (s3.trans s4), hB.mono s4, HS.ins_iff.mpr ⟨fun x e => by have := Option.some.inj e; omega, fun x e => by have := Option.some.inj e; omega⟩⟩
      · exact hN _ _ ⟨t, l, lo, hi, rfl, b1, hp1, ha1, EndsH.but b1 hp ht, BandH.but b1 hp hB, i1⟩
    clear ht hB i1 hp1 ha1 b1 H1 lo hi t l
    rintro σ H1 ⟨t, l, lo, hi, rfl, b1, hp1, ha1, ht, hB, i1⟩
    refine ⟨_, rfl, _, rfl, _, rfl, p, a, t, q, lo, hi, rfl, hp1, ha1, ht, i1, fun e b n0 H3 hn0 pth b3 hp3 hb3 => ?_⟩
    have i2 := pth.ends i1
    have ha3 := b3.st hp1 ha1
    have ht3 := EndsH.but b3 hp1 ht
    have hB3 := BandH.but b3 hp1 hB
    have b03 := b1.trans b3
    have hv : ∀ {H'}, Same H3 H' → BandV K H' (.ref l) lo hi := fun s => .inr ⟨l, rfl, hB3.mono s⟩
    refine ⟨_, rfl, fun D nD => lc_it walk_str (fun j H' => Same H3 H' ∧ AftL H' D q j) ⟨same_new nD, [], rfl, upd_same, fun i u s e1 => by cases e1⟩ (fun _ _ _ _ => True.intro) ?_ ?_⟩
    · rintro j x H4 H4' hj ⟨s4, hA⟩ ⟨rfl, cc, hcc, rfl⟩
      obtain ⟨st, est, hst⟩ := signs hcc
      rw [est]
      refine ⟨rfl, _, rfl, _, rfl, a, q, st, rfl, ha3.mono s4, fun H5 u s5 hu => ?_⟩
      obtain ⟨us, hus, hD, _⟩ := id hA
      have hD5 := s5 _ _ hD
      have r := hA.snoc s5 hst hu hD5
      refine ⟨_, hD5, ?_, ?_, r.2⟩
      · rw [r.1, sizeLine_eq]
        rw [signs_size] at hj
        omega
      · intro b' o e'
        rw [upd_ne (ne_of_none e' nD)]
        exact (s4.trans s5) _ _ e'
    rintro H4 ⟨s4, hA⟩
    rw [signs_size] at hA
    obtain ⟨xs, lx, hxs, hat⟩ := hA.at (K := K)
    refine ⟨_, rfl, D, rfl, ⟨xs, hxs⟩, fun D2 nD2 => lc_it walk_list (fun j H' => Same H4 H' ∧ H' D2 = some (.lst ((parts lo hi (6 + rn) e q (HS.steps.take j)).map V.int))) ⟨same_new nD2, upd_same⟩ (fun j H' _ h => h.1.seq hxs) ?_ ?_⟩
    · rintro j x H5 H5' hj ⟨s5, hD⟩ ⟨rfl, hx⟩
      obtain ⟨u, st, rfl, hst, hu⟩ := hat j x hx
      have s35 := s4.trans s5
      have tk := take_snoc hst
      refine ⟨rfl, _, rfl, _, rfl, u, _, _, _, rfl, rfl, SqT.of (hu.mono s5), atI_nat (j := 1) rfl, t, lo, hi, _, rfl, ht3.mono s35, ?_⟩
      refine ⟨_, rfl, ?_⟩
      refine ite2 (fun z => ?_) (fun z => ?_)
      · have pb : HS.Pth lo hi (n0 + 1) (HS.aft q st) e := .cons (HS.opp st) (by rw [HS.aft_opp]; exact i1) (by rw [HS.aft_opp]; exact pth)
        refine ⟨_, rfl, _, rfl, _, rfl, _, _, rfl, rfl, _, rfl, rfl, rfl, u, b, .ref l, _, e, lo, hi, 6 + rn, (by show [V.ref u, V.ref b, V.int (7 + (rn : Int) - 1), .ref l] = _; rw [show 7 + (rn : Int) - 1 = ((6 + rn : Nat) : Int) by omega]), hu.mono s5, hb3.mono s35, hv s35, z, i2, near_of pb (by omega), by omega, fun H6 s6 => ?_⟩
        have hD6 := s6 _ _ hD
        refine ⟨_, hD6, ?_, ?_, ?_⟩
        · rw [List.length_map, sizeLine_eq]
          have := parts_len (lo := lo) (hi := hi) (n := 6 + rn) (e := e) (q := q) j
          omega
        · intro b' o e'
          rw [upd_ne (ne_of_none e' nD2)]
          exact (s5.trans s6) _ _ e'
        · rw [upd_same, tk, parts_snoc, if_pos z, List.map_append]
          rfl
      · refine ⟨s5, ?_⟩
        rw [tk, parts_snoc, if_neg z]
        exact hD
    rintro H5 ⟨s5, hD⟩
    have full : (parts lo hi (6 + rn) e q (HS.steps.take xs.length)) = parts lo hi (6 + rn) e q HS.steps := by
      rw [lx]
      rfl
    rw [full] at hD
    have s35 := s4.trans s5
    refine ⟨_, rfl, _, rfl, _, rfl, _, rfl, rfl, rfl, a, b, .ref l, q, e, lo, hi, 7 + rn, rfl, ha3.mono s35, hb3.mono s35, hv s35, i1, i2, near_of pth (by omega), by omega, fun H6 s6 => ?_⟩
    refine ⟨_, rfl, D2, _, rfl, SqL.of (s6 _ _ hD), rfl, _, rfl, ?_⟩
    rw [parts_sum, show 6 + rn + 1 = 7 + rn by omega]
    refine ite2 (fun z => absurd z (by simp)) (fun _ => ?_)
    have s36 := s35.trans s6
    have b06 := b03.trans (But.of s36)
    have hp6 := hp3.mono s36
    have ha6 := ha3.mono s36
    clear hv hat hxs hA
    refine ⟨_, rfl, _, rfl, p, a, q, rfl, hp6, ha6, fun H7 b7 hp7 => ?_⟩
    have ha7 := b7.st hp6 ha6
    refine ⟨_, rfl, ?_⟩
    refine ⟨_, rfl, _, rfl, p, a, q, rfl, hp7, ha7, fun H8 b8 hp8 => ?_⟩
    have ha8 := b8.st hp7 ha7
    refine ⟨_, rfl, ?_⟩
    -- one height up
    refine ⟨_, rfl, p, 8, rfl, hp8, by decide, by decide, fun r H9 r0 r1 b9 hp9 => ?_⟩
    obtain ⟨an, rfl⟩ : ∃ an : Nat, r = (an : Int) := ⟨r.toNat, by omega⟩
    refine ⟨_, _, rfl, rfl, ?_⟩
    refine ⟨_, rfl, p, 15, rfl, hp9, by decide, by decide, fun u H10 u0 u1 b10 hp10 => ?_⟩
    refine ⟨by show 2 ≤ sizeLine; decide, fun z nz => ?_⟩
    have hz : (upd H10 z (.tup [.int (6 + (an : Int)), .int u])) z = some (.tup [.int (6 + (an : Int)), .int u]) := upd_same
    have sz := same_new (o := .tup [.int (6 + (an : Int)), .int u]) nz
    have ha10 := (b10.st hp9 (b9.st hp8 ha8)).mono sz
    have b010 := ((((b06.trans b7).trans b8).trans b9).trans b10).trans (But.of sz)
    have hp11 := hp10.mono sz
    refine ⟨z, _, rfl, SqT.of hz, rfl, _, _, rfl, _, _, rfl, rfl, ?_⟩
    generalize upd H10 z (.tup [.int (6 + (an : Int)), .int u]) = H11 at ha10 b010 hp11
    refine ⟨_, rfl, a, _, _, _, rfl, rfl, SqT.of ha10, atI_nat (j := 0) rfl, _, rfl, _, _, rfl, rfl, ?_⟩
    refine ⟨_, rfl, a, _, _, _, rfl, rfl, SqT.of ha10, atI_nat (j := 1) rfl, _, _, rfl, rfl, ?_⟩
    refine ⟨_, rfl, a, _, _, _, rfl, rfl, SqT.of ha10, atI_nat (j := 2) rfl, _, rfl, a, _, _, _, rfl, rfl, SqT.of ha10, atI_nat (j := 1) rfl, _, rfl, _, _, rfl, rfl, .inr ⟨by omega, by omega⟩, _, _, rfl, rfl, ?_⟩
    refine ⟨_, rfl, _, rfl, _, _, rfl, _, _, rfl, rfl, by show 3 ≤ sizeLine; decide, fun g ng => ?_⟩
    have hS : ∃ S : Int, (if 6 + (an : Int) < u then 6 + (an : Int) else u) = S ∧ 0 ≤ S ∧ S ≤ ((6 + an : Nat) : Int) := by
      refine ⟨_, rfl, ?_⟩
      split <;> omega
    obtain ⟨S, eS, S0, S1⟩ := hS
    rw [eS]
    have one1 := up1_cnt (q := q) S0 S1
    have sg := same_new (o := .tup (tri (HS.up q (6 + an) 1 S))) ng
    have hg : StH (upd H11 g (.tup (tri (HS.up q (6 + an) 1 S)))) g (HS.up q (6 + an) 1 S) := upd_same
    refine ⟨_, rfl, _, rfl, a, g, .non, q, HS.up q (6 + an) 1 S, none, none, 6 + an + 1, rfl, ha10.mono sg, hg, .inl ⟨rfl, rfl, rfl⟩, rfl, up_dist (by rw [one1]; decide), by omega, fun H12 s12 => ?_⟩
    rw [one1]
    refine ⟨rfl, _, rfl, ?_⟩
    refine ite2 (fun z => absurd z (by decide)) (fun _ => ?_)
    have ha12 := (ha10.mono sg).mono s12
    have hp12 := (hp11.mono sg).mono s12
    have b012 := (b010.trans (But.of sg)).trans (But.of s12)
    -- two heights up
    refine ⟨_, rfl, p, 5, rfl, hp12, by decide, by decide, fun r H13 q0 q1 b13 hp13 => ?_⟩
    obtain ⟨cn, rfl⟩ : ∃ cn : Nat, r = (cn : Int) := ⟨r.toNat, by omega⟩
    refine ⟨_, _, rfl, rfl, ?_⟩
    refine ⟨_, rfl, _, rfl, _, _, rfl, rfl, .inl ⟨by decide, by decide⟩, _, _, rfl, rfl, p, 2 * (5 + (cn : Int)) + 1, rfl, hp13, by omega, by omega, fun tot H14 t0 t1 b14 hp14 => ?_⟩
    obtain ⟨tn, rfl⟩ : ∃ tn : Nat, tot = (tn : Int) := ⟨tot.toNat, by omega⟩
    have ha14 := b14.st hp13 (b13.st hp12 ha12)
    have b014 := (b012.trans b13).trans b14
    refine ⟨_, rfl, _, _, rfl, rfl, ((5 + cn + 1 : Nat) : Int), rfl, by omega, by omega, fun D3 nD3 => lc_it (walk_range (lo := 0) (n := 5 + cn + 1)) (fun j H' => Same H14 H' ∧ H' D3 = some (.lst (((List.range j).filter fun l : Nat => decide ((l : Int) ≤ (tn : Int) - l ∧ (tn : Int) - l ≤ ((5 + cn : Nat) : Int))).map fun l : Nat => V.int (l : Int)))) ⟨same_new nD3, upd_same⟩ (fun _ _ _ _ => True.intro) ?_ ?_⟩
    · rintro j x H15 H15' hj ⟨s15, hD15⟩ ⟨rfl, hx⟩
      obtain rfl : x = V.int (j : Int) := by
        rw [hx]
        show V.int (0 + (j : Int)) = _
        rw [Int.zero_add]
      have keep : ∀ o, Same H14 (upd H15' D3 o) := fun o b' o' e' => by
        rw [upd_ne (ne_of_none e' nD3)]
        exact s15 _ _ e'
      have fl : (List.range (j + 1)).filter (fun l : Nat => decide ((l : Int) ≤ (tn : Int) - l ∧ (tn : Int) - l ≤ ((5 + cn : Nat) : Int))) = (List.range j).filter (fun l : Nat => decide ((l : Int) ≤ (tn : Int) - l ∧ (tn : Int) - l ≤ ((5 + cn : Nat) : Int))) ++ if (j : Int) ≤ (tn : Int) - j ∧ (tn : Int) - j ≤ ((5 + cn : Nat) : Int) then [j] else [] := by
        rw [List.range_succ, List.filter_append]
        congr 1
        by_cases c : (j : Int) ≤ (tn : Int) - j ∧ (tn : Int) - j ≤ ((5 + cn : Nat) : Int)
        · rw [if_pos c, List.filter_cons, if_pos (decide_eq_true c)]
          rfl
        · rw [if_neg c, List.filter_cons, if_neg (by rw [decide_eq_false c]; decide)]
          rfl
      refine ⟨rfl, _, rfl, _, rfl, _, rfl, _, _, rfl, rfl, _, _, rfl, rfl, _, rfl, ?_⟩
      refine ite2 (fun c1 => ?_) (fun c1 => ?_)
      · have c1' : (j : Int) ≤ (tn : Int) - j := of_decide_eq_true c1
        refine ⟨_, rfl, _, _, rfl, rfl, _, rfl, ?_⟩
        refine ite2 (fun c2 => ?_) (fun c2 => ?_)
        · have c2' : (tn : Int) - j ≤ ((5 + cn : Nat) : Int) := of_decide_eq_true c2
          refine ⟨_, rfl, _, hD15, ?_, keep _, ?_⟩
          · rw [List.length_map, sizeLine_eq]
            have h1 := List.length_filter_le (fun l : Nat => decide ((l : Int) ≤ (tn : Int) - l ∧ (tn : Int) - l ≤ ((5 + cn : Nat) : Int))) (List.range j)
            rw [List.length_range] at h1
            omega
          · rw [upd_same, fl, if_pos ⟨c1', c2'⟩, List.map_append]
            rfl
        · have c2' : ¬ (tn : Int) - j ≤ ((5 + cn : Nat) : Int) := fun y => c2 (decide_eq_true y)
          refine ⟨s15, ?_⟩
          rw [fl, if_neg (fun y => c2' y.2), List.append_nil]
          exact hD15
      · have c1' : ¬ (j : Int) ≤ (tn : Int) - j := fun y => c1 (decide_eq_true y)
        refine ⟨_, rfl, ?_⟩
        refine ⟨s15, ?_⟩
        rw [fl, if_neg (fun y => c1' y.1), List.append_nil]
        exact hD15
    rintro H15 ⟨s15, hD15⟩
    refine ⟨D3, _, rfl, .inl (SqL.of hD15), ?_⟩
    rw [List.length_map]
    have ha15 := ha14.mono s15
    refine ⟨_, rfl, _, rfl, a, _, _, _, rfl, rfl, SqT.of ha15, atI_nat (j := 0) rfl, _, rfl, _, _, rfl, rfl, ?_⟩
    refine ⟨_, rfl, a, _, _, _, rfl, rfl, SqT.of ha15, atI_nat (j := 1) rfl, _, _, rfl, rfl, ?_⟩
    refine ⟨_, rfl, a, _, _, _, rfl, rfl, SqT.of ha15, atI_nat (j := 2) rfl, _, rfl, a, _, _, _, rfl, rfl, SqT.of ha15, atI_nat (j := 1) rfl, _, rfl, _, _, rfl, rfl, .inr ⟨by omega, by omega⟩, _, _, rfl, rfl, ?_⟩
    refine ⟨_, rfl, _, _, rfl, rfl, by show 3 ≤ sizeLine; decide, fun g2 ng2 => ?_⟩
    have sg2 := same_new (o := .tup (tri (HS.up q (5 + cn) 2 (tn : Int)))) ng2
    have hg2 : StH (upd H15 g2 (.tup (tri (HS.up q (5 + cn) 2 (tn : Int))))) g2 (HS.up q (5 + cn) 2 (tn : Int)) := upd_same
    have val := HS.cnt_up2 (5 + cn) q (tn : Int)
    have pos : 0 < HS.cnt none none (5 + cn + 2) (HS.up q (5 + cn) 2 (tn : Int)) q := by
      rw [val]
      exact two_pos _ (by omega) _ (by omega) (by omega)
    refine ⟨a, g2, .non, q, HS.up q (5 + cn) 2 (tn : Int), none, none, 5 + cn + 2, rfl, ha15.mono sg2, hg2, .inl ⟨rfl, rfl, rfl⟩, rfl, up_dist pos, by omega, fun H16 s16 => ?_⟩
    rw [val, HS.two_ways _ (by omega) _ (by omega)]
    refine ⟨_, rfl, rfl, ?_⟩
    have s1416 := (s15.trans sg2).trans s16
    have e1 : decide (V.int (HS.ways (5 + cn) (tn : Int)) = V.int (((List.range (5 + cn + 1)).filter fun l : Nat => decide ((l : Int) ≤ (tn : Int) - l ∧ (tn : Int) - l ≤ ((5 + cn : Nat) : Int))).length : Nat)) = true := decide_eq_true rfl
    rw [e1]
    exact k H16 (b014.trans (But.of s1416)) (hp14.mono s1416)
end
end Hs
set_option maxHeartbeats 4000000
namespace Hs
open PySem L2 HSR
theorem same_but {p : Addr} {H H1 H' : Hp} (s : Same H H1) (n : H p = none) (b : But p H1 H') : Same H H' := fun c o e => b c o (s c o e) fun z => by
  rw [z, n] at e
  cases e
section
variable {P : Program} {w : World} {K : PySem.W.Frag} {mg : Str → Option Value} {base : Heap} {f : Addr} {fd : FuncData}
/-! ### law -/
abbrev s_law : Stmt := top 64
theorem sc_law : FnScope ["_law_script", "_law_k", "_law_pool_here", "_law_start", "_law_ends_here", "_law_limits", "_law_end_here"] ["_law_script"] (defScope s_law) := ⟨rfl, rfl, rfl, by decide +kernel, rfl, by decide +kernel, by decide +kernel⟩
def spLaw (K : PySem.W.Frag) : Sp := fun vs H Q _ => ∃ (a : Addr) (ns : List Int), vs = [.ref a] ∧ SqL K H a (ns.map V.int) ∧ ∀ H', Q (.bl true) H'
theorem ok_law (T : Txt K mg) (k_Band : Mkr P w K mg base 2 "Band" [] ["self", "low", "high"] (spBandInit K))
    (c__law_pool : Fn P w K mg base 1 "_law_pool" [] ["_law_script", "_law_k"] (spPool K)) (c__law_integer : Fn P w K mg base 2 "_law_integer" [] ["_law_pool_here"] spInteger)
    (c__law_ends : Fn P w K mg base 2 "_law_ends" [] ["_law_pool_here", "_law_low", "_law_high"] spEnds) (c__law_end : Fn P w K mg base 2 "_law_end" [] ["_law_pool_here", "_law_start", "_law_ends_here"] spEnd)
    (c__law_take : Fn P w K mg base 1 "_law_take" [] ["_law_pool_here", "_law_bound"] spTake)
    (c__law_lengths_right : Fn P w K mg base 9 "_law_lengths_right" [] ["_law_start", "_law_end_here", "_law_ends_here", "_law_limits", "_law_most"] (spLengths K))
    (c__law_shortest_right : Fn P w K mg base 11 "_law_shortest_right" [] ["_law_start", "_law_end_here", "_law_limits"] (spShortest K))
    (c__law_long_right : Fn P w K mg base 11 "_law_long_right" [] ["_law_pool_here", "_law_start", "_law_ends_here", "_law_limits"] (spLong K))
    (F : FnP K "law" s_law [] [] f fd) : FnOk P w K mg base CX0 12 f fd ["_law_script"] (spLaw K) := by
  refine F.ok sc_law (fun vs H Q E h => ?_) (fun cdv A outer s H vs Q E hr h => ⟨_, PSs.nox (pss_cons (ps_for PassesOwn.never rfl (pi_range1 (by rfl) T.range_ (pa_cons (pe_callB (call_max2 rfl) (by rfl) T.max_ (by decide +kernel) (pa_cons pe_int (pa_cons (pe_callB (call_min2 rfl) (by rfl) T.min_ (by decide +kernel) (pa_cons pe_int (pa_cons (pe_callB call_len_seq (by rfl) T.len_ (by decide +kernel) (pa_cons (pv 0) pa_nil)) pa_nil))) pa_nil))) pa_nil)) (pg_name (i := 1) sc_law.nd rfl (Or.inl rfl)) (pss_cons (ps_set (i := 2) sc_law.nd rfl (Or.inl rfl) (pe_callF c__law_pool (hr.mono (by decide)) (pa_cons (pv 0) (pa_cons (pv 1) pa_nil)))) (pss_cons (ps_set (i := 3) sc_law.nd rfl (Or.inl rfl) (pe_tup (pa_cons (pe_callF c__law_integer (hr.mono (by decide)) (pa_cons (pv 2) pa_nil)) (pa_cons (pe_callF c__law_integer (hr.mono (by decide)) (pa_cons (pv 2) pa_nil)) (pa_cons (pe_callF c__law_integer (hr.mono (by decide)) (pa_cons (pv 2) pa_nil)) pa_nil))))) (pss_cons (ps_set (i := 4) sc_law.nd rfl (Or.inl rfl) (pe_callF c__law_ends (hr.mono (by decide)) (pa_cons (pv 2) (pa_cons (pe_ix ix_tup (pv 3) pe_int (fun _ _ => rfl)) (pa_cons (pe_ix ix_tup (pv 3) pe_int (fun _ _ => rfl)) pa_nil))))) (pss_cons (ps_set (i := 5) sc_law.nd rfl (Or.inl rfl) (pe_makeF k_Band (hr.mono (by decide)) (pa_cons (pe_ix ix_tup (pv 4) pe_int (fun _ _ => rfl)) (pa_cons (pe_ix ix_tup (pv 4) pe_int (fun _ _ => rfl)) pa_nil)))) (pss_cons (ps_set (i := 6) sc_law.nd rfl (Or.inl rfl) (pe_callF c__law_end (hr.mono (by decide)) (pa_cons (pv 2) (pa_cons (pv 3) (pa_cons (pv 4) pa_nil))))) (pss_cons (ps_if (pt_not (pt_val (pe_callF c__law_lengths_right (hr.mono (by decide)) (pa_cons (pv 3) (pa_cons (pv 6) (pa_cons (pv 4) (pa_cons (pv 5) (pa_cons (pe_callF c__law_take (hr.mono (by decide)) (pa_cons (pv 2) (pa_cons pe_int pa_nil))) pa_nil)))))))) (pss_one (ps_ret pe_bl)) pss_nil) (pss_cons (ps_if (pt_not (pt_val (pe_callF c__law_shortest_right (hr.mono (by decide)) (pa_cons (pv 3) (pa_cons (pv 6) (pa_cons (pv 5) pa_nil)))))) (pss_one (ps_ret pe_bl)) pss_nil) (pss_one (ps_if (PW.pt (pw_and (pt_cmpR op_eq (pv 1) pe_int (nomark _)) (pw_and1 (pt_not (pt_val (pe_callF c__law_long_right (hr.mono (by decide)) (pa_cons (pv 2) (pa_cons (pv 3) (pa_cons (pv 4) (pa_cons (pv 5) pa_nil)))))))))) (pss_one (ps_ret pe_bl)) pss_nil)))))))))) (pss_one (ps_ret pe_bl))), ?_⟩)
  · obtain ⟨a, ns, rfl, _⟩ := h
    rfl
  · obtain ⟨a, ns, rfl, hS, k⟩ := h
    refine ⟨_, rfl, a, _, rfl, .inl hS, _, _, rfl, _, _, rfl, ?_⟩
    obtain ⟨m, em, hm⟩ : ∃ m : Nat, (if (if (((ns.map V.int).length : Nat) : Int) < 2 then (((ns.map V.int).length : Nat) : Int) else 2) > 1 then (if (((ns.map V.int).length : Nat) : Int) < 2 then (((ns.map V.int).length : Nat) : Int) else 2) else 1) = (m : Int) ∧ m ≤ 2 := by
      generalize (ns.map V.int).length = z
      by_cases c : (z : Int) < 2
      · rw [if_pos c]
        by_cases c2 : (z : Int) > 1
        · exact ⟨z, by rw [if_pos c2], by omega⟩
        · exact ⟨1, by rw [if_neg c2]; rfl, by omega⟩
      · exact ⟨2, by rw [if_neg c]; rfl, by omega⟩
    rw [em]
    refine ⟨(m : Int), rfl, by omega, by omega, for_range (lo := 0) (n := m) (fun i σ H' => ∃ v1 v2 v3 v4 v5 v6, σ = [some (.ref a), v1, v2, v3, v4, v5, v6] ∧ Same H H') ⟨none, none, none, none, none, none, rfl, Same.refl H⟩ ?_ ?_⟩
    · rintro i σ H1 hi' ⟨v1, v2, v3, v4, v5, v6, rfl, s1⟩
      refine ⟨_, rfl, _, rfl, a, ns, _, rfl, s1.seq hS, by omega, fun H2 p s2 np hp2 => ?_⟩
      refine ⟨_, rfl, p, rfl, hp2, fun x H3 b3 hp3 => ?_⟩
      refine ⟨_, rfl, p, rfl, hp3, fun h H4 b4 hp4 => ?_⟩
      refine ⟨_, rfl, p, rfl, hp4, fun z H5 b5 hp5 => ?_⟩
      refine ⟨by show 3 ≤ sizeLine; decide, fun g ng => ?_⟩
      have sg := same_new (o := .tup (tri (x, h, z))) ng
      have hg : StH (upd H5 g (.tup (tri (x, h, z)))) g (x, h, z) := upd_same
      have bg := ((b3.trans b4).trans b5).trans (But.of sg)
      have hpg := hp5.mono sg
      have eg : (upd H5 g (.tup [V.int x, V.int h, V.int z])) = upd H5 g (.tup (tri (x, h, z))) := rfl
      rw [eg]
      generalize upd H5 g (.tup (tri (x, h, z))) = H6 at hg bg hpg
      refine ⟨_, rfl, _, rfl, g, _, _, _, rfl, rfl, SqT.of hg, atI_nat (j := 1) rfl, _, rfl, g, _, _, _, rfl, rfl, SqT.of hg, atI_nat (j := 1) rfl, p, h, h, rfl, hpg, fun lo hi H7 t l1 l2 b7 hp7 ht7 => ?_⟩
      have hg7 := b7.st hpg hg
      have b27 := bg.trans b7
      refine ⟨_, rfl, t, _, _, _, rfl, rfl, SqT.of ht7, atI_nat (j := 0) rfl, _, rfl, t, _, _, _, rfl, rfl, SqT.of ht7, atI_nat (j := 1) rfl, fun l dx nl ndx ne => ?_⟩
      refine ⟨l, dx, lo, hi, rfl, upd_same, (fun x y e1 e2 => by have := l1 x e1; have := l2 y e2; omega), fun H8 keep hB => ⟨rfl, ?_⟩⟩
      have s8 := made_same nl ndx keep
      have hp8 := hp7.mono s8
      have hg8 := hg7.mono s8
      have ht8 := ht7.mono s8
      have b28 := b27.trans (But.of s8)
      have i1 : HS.ins lo hi (x, h, z).2.1 = true := HS.ins_iff.mpr ⟨l1, l2⟩
      refine ⟨_, rfl, _, rfl, _, rfl, p, g, t, _, lo, hi, rfl, hp8, hg8, ht8, i1, fun e b n H9 hn pth b9 hp9 hb9 => ?_⟩
      have hg9 := b9.st hp8 hg8
      have ht9 := EndsH.but b9 hp8 ht8
      have hB9 := BandH.but b9 hp8 hB
      have b29 := b28.trans b9
      refine ⟨_, rfl, _, rfl, _, rfl, _, rfl, _, rfl, p, 7, rfl, hp9, by decide, by decide, fun r H10 r0 r1 b10 hp10 => ?_⟩
      obtain ⟨rn, rfl⟩ : ∃ rn : Nat, r = (rn : Int) := ⟨r.toNat, by omega⟩
      have hg10 := b10.st hp9 hg9
      have hb10 := b10.st hp9 hb9
      have ht10 := EndsH.but b10 hp9 ht9
      have hB10 := BandH.but b10 hp9 hB9
      have b210 := b29.trans b10
      refine ⟨g, b, t, .ref l, _, e, lo, hi, rn, n, rfl, hg10, hb10, ht10, .inr ⟨l, rfl, hB10⟩, i1, pth, by omega, by omega, fun H11 s11 => ?_⟩
      refine ⟨_, rfl, ?_⟩
      refine ⟨_, rfl, _, rfl, _, rfl, g, b, .ref l, _, e, lo, hi, n, rfl, hg10.mono s11, hb10.mono s11, .inr ⟨l, rfl, hB10.mono s11⟩, i1, pth, by omega, fun H12 s12 => ?_⟩
      refine ⟨_, rfl, ?_⟩
      have s1012 := s11.trans s12
      have b212 := b210.trans (But.of s1012)
      have hp12 := hp10.mono s1012
      refine ⟨_, rfl, rfl, _, rfl, ?_⟩
      refine ite2 (fun _ => ?_) (fun _ => ?_)
      · refine ⟨_, rfl, _, rfl, _, rfl, _, rfl, p, g, t, l, _, lo, hi, rfl, hp12, hg10.mono s1012, ht10.mono s1012, hB10.mono s1012, i1, fun H13 b13 hp13 => ?_⟩
        refine ⟨_, rfl, ?_⟩
        exact ⟨_, _, _, _, _, _, rfl, s1.trans (same_but s2 np (b212.trans b13))⟩
      · exact ⟨_, _, _, _, _, _, rfl, s1.trans (same_but s2 np b212)⟩
    · rintro σ H1 ⟨v1, v2, v3, v4, v5, v6, rfl, s1⟩
      exact k H1
end
end Hs
set_option maxHeartbeats 0
namespace Hs
open PySem PySem.Spec PyProof.Rows L2 HSR
section
variable {P : Program} {w : World} {K : PySem.W.Frag} {mg : Str → Option Value} {h : Heap}
theorem txt (X : K.In h) (G : h.Ns mainGlobals mg) (c : He.SaysD fa fn K) (e : ex K = true) : Txt K mg := by
  obtain ⟨e0, e⟩ := He.ba e
  obtain ⟨e1, e⟩ := He.ba e
  obtain ⟨e2, e⟩ := He.ba e
  obtain ⟨e3, e⟩ := He.ba e
  obtain ⟨e4, e5⟩ := He.ba e
  exact {
    isinstance_ := He.free_ok X G (c.fact 43 (f := .free "isinstance") rfl)
    len_ := He.free_ok X G (c.fact 44 (f := .free "len") rfl)
    all_ := He.free_ok X G (c.fact 45 (f := .free "all") rfl)
    abs_ := He.free_ok X G (c.fact 46 (f := .free "abs") rfl)
    sum_ := He.free_ok X G (c.fact 47 (f := .free "sum") rfl)
    repr_ := He.free_ok X G (c.fact 48 (f := .free "repr") rfl)
    min_ := He.free_ok X G (c.fact 49 (f := .free "min") rfl)
    max_ := He.free_ok X G (c.fact 50 (f := .free "max") rfl)
    int_ := He.free_ok X G (c.fact 51 (f := .free "int") rfl)
    bool_ := He.free_ok X G (c.fact 52 (f := .free "bool") rfl)
    tuple_ := He.free_ok X G (c.fact 53 (f := .free "tuple") rfl)
    range_ := He.free_ok X G (c.fact 54 (f := .free "range") rfl)
    gSTEPS := He.glo_ok X G (c.fact 42 (f := .glo "STEPS") rfl)
    steps := fun H => He.tupB_ok e0 H
    gMAX_PATH_STEPS := He.int_ok X G (c.fact 55 (f := .int "MAX_PATH_STEPS" 10) rfl)
    gMAX_SHORTEST_STEPS := He.int_ok X G (c.fact 56 (f := .int "MAX_SHORTEST_STEPS" 14) rfl)
    gBand := He.glo_ok X G (c.fact 40 (f := .glo "Band") rfl)
    clB := He.cls_ok (c.fact 57 (f := .cls "Band") rfl)
    clX := He.cls_ok (c.fact 58 (f := .cls "Extents") rfl)
    nLow := He.noat_ok (c.fact 59 (f := .noat "Band" "low_end") rfl)
    nHigh := He.noat_ok (c.fact 60 (f := .noat "Band" "high_end") rfl)
    nWidth := He.noat_ok (c.fact 61 (f := .noat "Extents" "width") rfl)
    nClimb := He.noat_ok (c.fact 62 (f := .noat "Extents" "climb") rfl)
    nDepth := He.noat_ok (c.fact 63 (f := .noat "Extents" "depth") rfl)
    nBase := He.noat_ok (c.fact 64 (f := .noat "Extents" "base") rfl)
    nLimit := He.noat_ok (c.fact 65 (f := .noat "Extents" "limit") rfl)
    isB1 := He.eqO_ok e1
    isB2 := He.eqO_ok e2
    isB3 := of_decide_eq_true e3
    isB4 := of_decide_eq_true e4
    isB5 := of_decide_eq_true e5 }
theorem Fn.of {base : Heap} {k : Nat} {x : Str} {st : Stmt} {kws : List (Str × V)} {ps : List Str} {sp : Sp} {fd : FuncData} (hg : mg x = some (.ref (He.ga K x))) (F : FnP K x st [] kws (He.ga K x) fd) (ok : FnOk P w K mg base CX0 k (He.ga K x) fd ps sp)
    (hb : ∀ (kV doc pm : Value) (an : Option Addr) (cdv ct : Value) (us : List Value), us.length = ps.length → bindArgs (PySem.W.fnOf x x (defArgs st) (defBody st) (defScope st) .none kV doc pm an cdv ct) ⟨us, []⟩ = pure (ps.zip us)) : Fn P w K mg base k x [] ps sp :=
  ⟨hg, F.kp, fd, [], ok, .nil, F.bindsN hb⟩
theorem Mh.of {base : Heap} {k : Nat} {C m qual : Str} {st : Stmt} {ps : List Str} {sp : Sp} {fd : FuncData} (cl : Cls K (He.ga K C)) (me : Meth K (He.ga K C) m (He.ma K (He.ga K C) m)) (F : FnM K m qual st [] (He.ma K (He.ga K C) m) fd) (ok : FnOk P w K mg base CX0 k (He.ma K (He.ga K C) m) fd ps sp)
    (hb : ∀ (kV doc pm : Value) (an : Option Addr) (cdv ct : Value) (us : List Value), us.length = ps.length → bindArgs (PySem.W.fnOf m qual (defArgs st) (defBody st) (defScope st) .none kV doc pm an cdv ct) ⟨us, []⟩ = pure (ps.zip us)) : Mh P w K mg base k C m ps sp :=
  ⟨cl, me, fd, ok, F.bindsN hb⟩
theorem KFn.of {base : Heap} {k n : Nat} {x : Str} {st : Stmt} {ps : List Str} {sp : Sp} {fd : FuncData} (hg : mg x = some (.ref (He.ga K x))) (F : FnP K x st [] [("band", .non)] (He.ga K x) fd) (ok : FnOk P w K mg base CX0 k (He.ga K x) fd ps sp)
    (hb : ∀ (D : Addr) (doc pm : Value) (an : Option Addr) (cdv ct : Value) (us ws : List Value), us.length = n → ws.length = 1 → bindArgs (PySem.W.fnOf x x (defArgs st) (defBody st) (defScope st) .none (.ref D) doc pm an cdv ct) ⟨us, ([("band" : Str)] : List Str).zip ws⟩ = pure (ps.zip (us ++ ws))) : KFn P w K mg base k n x ps sp := by
  obtain ⟨mv, b⟩ := F.kbinds0 n ["band"] [] (fun us _ ws => us ++ ws) (by intro z; cases z) (by intro q hq; cases hq) (fun r1 _ r3 => r1.append r3) fun D doc pm an cdv ct us mv ws l1 l2 l3 => by
    obtain rfl : mv = [] := List.eq_nil_of_length_eq_zero l2
    exact hb D doc pm an cdv ct us ws l1 l3
  exact ⟨hg, F.kp, fd, ok, b⟩
theorem facts (X : K.In h) (G : h.Ns mainGlobals mg) (c : He.SaysD fa fn K) (e : ex K = true) :
    ∃ fd : FuncData, (∀ (s : Shared) (v : Value), BindsTo s fd ⟨[v], []⟩ [("_law_script", v)]) ∧ ∀ base : Heap, K.In base → base.Ns mainGlobals mg → FnOk P w K mg base CX0 12 (He.ga K "law") fd ["_law_script"] (spLaw K) := by
  have T := txt X G c e
  obtain ⟨fd_is_integer, F_is_integer⟩ := c.def_ 0 (d := d_is_integer) rfl
  obtain ⟨fd_check_integer, F_check_integer⟩ := c.def_ 1 (d := d_check_integer) rfl
  obtain ⟨fd_is_state, F_is_state⟩ := c.def_ 2 (d := d_is_state) rfl
  obtain ⟨fd_check_state, F_check_state⟩ := c.def_ 3 (d := d_check_state) rfl
  obtain ⟨fd_after_step, F_after_step⟩ := c.def_ 4 (d := d_after_step) rfl
  obtain ⟨fd_difference, F_difference⟩ := c.def_ 5 (d := d_difference) rfl
  obtain ⟨fd_Band_includes, F_Band_includes⟩ := c.def_ 6 (d := d_Band_includes) rfl
  obtain ⟨fd_Band_room, F_Band_room⟩ := c.def_ 7 (d := d_Band_room) rfl
  obtain ⟨fd_Band___init__, F_Band___init__⟩ := c.def_ 8 (d := d_Band___init__) rfl
  obtain ⟨fd_to_band, F_to_band⟩ := c.def_ 9 (d := d_to_band) rfl
  obtain ⟨fd_check_height, F_check_height⟩ := c.def_ 10 (d := d_check_height) rfl
  obtain ⟨fd_capped, F_capped⟩ := c.def_ 11 (d := d_capped) rfl
  obtain ⟨fd_depth_of, F_depth_of⟩ := c.def_ 12 (d := d_depth_of) rfl
  obtain ⟨fd_Extents___init__, F_Extents___init__⟩ := c.def_ 13 (d := d_Extents___init__) rfl
  obtain ⟨fd_Extents_extent, F_Extents_extent⟩ := c.def_ 14 (d := d_Extents_extent) rfl
  obtain ⟨fd_Extents_breakpoints, F_Extents_breakpoints⟩ := c.def_ 15 (d := d_Extents_breakpoints) rfl
  obtain ⟨fd_Extents_peaks, F_Extents_peaks⟩ := c.def_ 16 (d := d_Extents_peaks) rfl
  obtain ⟨fd_Extents_best_split, F_Extents_best_split⟩ := c.def_ 17 (d := d_Extents_best_split) rfl
  obtain ⟨fd_Extents_greatest, F_Extents_greatest⟩ := c.def_ 18 (d := d_Extents_greatest) rfl
  obtain ⟨fd_Extents_fewest_pairs, F_Extents_fewest_pairs⟩ := c.def_ 19 (d := d_Extents_fewest_pairs) rfl
  obtain ⟨fd_extents_for, F_extents_for⟩ := c.def_ 20 (d := d_extents_for) rfl
  obtain ⟨fd_range_with_pairs, F_range_with_pairs⟩ := c.def_ 21 (d := d_range_with_pairs) rfl
  obtain ⟨fd_fewest_pairs, F_fewest_pairs⟩ := c.def_ 22 (d := d_fewest_pairs) rfl
  obtain ⟨fd_fewest_steps, F_fewest_steps⟩ := c.def_ 23 (d := d_fewest_steps) rfl
  obtain ⟨fd_displacement_and_room, F_displacement_and_room⟩ := c.def_ 24 (d := d_displacement_and_room) rfl
  obtain ⟨fd_distance_or_none, F_distance_or_none⟩ := c.def_ 25 (d := d_distance_or_none) rfl
  obtain ⟨fd_distance, F_distance⟩ := c.def_ 26 (d := d_distance) rfl
  obtain ⟨fd_pairs_for, F_pairs_for⟩ := c.def_ 27 (d := d_pairs_for) rfl
  obtain ⟨fd_sums_within, F_sums_within⟩ := c.def_ 28 (d := d_sums_within) rfl
  obtain ⟨fd_sums_after, F_sums_after⟩ := c.def_ 29 (d := d_sums_after) rfl
  obtain ⟨fd_is_reachable, F_is_reachable⟩ := c.def_ 30 (d := d_is_reachable) rfl
  obtain ⟨fd_extend_paths, F_extend_paths⟩ := c.def_ 31 (d := d_extend_paths) rfl
  obtain ⟨fd_count_paths, F_count_paths⟩ := c.def_ 32 (d := d_count_paths) rfl
  obtain ⟨fd_count_shortest_paths, F_count_shortest_paths⟩ := c.def_ 33 (d := d_count_shortest_paths) rfl
  obtain ⟨fd_good_steps, F_good_steps⟩ := c.def_ 34 (d := d_good_steps) rfl
  obtain ⟨fd_next_steps, F_next_steps⟩ := c.def_ 35 (d := d_next_steps) rfl
  obtain ⟨fd__law_take, F__law_take⟩ := c.def_ 36 (d := d__law_take) rfl
  obtain ⟨fd__law_pool, F__law_pool⟩ := c.def_ 37 (d := d__law_pool) rfl
  obtain ⟨fd__law_integer, F__law_integer⟩ := c.def_ 38 (d := d__law_integer) rfl
  obtain ⟨fd__law_inside, F__law_inside⟩ := c.def_ 39 (d := d__law_inside) rfl
  obtain ⟨fd__law_after, F__law_after⟩ := c.def_ 40 (d := d__law_after) rfl
  obtain ⟨fd__law_ends, F__law_ends⟩ := c.def_ 41 (d := d__law_ends) rfl
  obtain ⟨fd__law_end, F__law_end⟩ := c.def_ 42 (d := d__law_end) rfl
  obtain ⟨fd__law_table, F__law_table⟩ := c.def_ 43 (d := d__law_table) rfl
  obtain ⟨fd__law_lengths_right, F__law_lengths_right⟩ := c.def_ 44 (d := d__law_lengths_right) rfl
  obtain ⟨fd__law_shortest_right, F__law_shortest_right⟩ := c.def_ 45 (d := d__law_shortest_right) rfl
  obtain ⟨fd__law_narrow_right, F__law_narrow_right⟩ := c.def_ 46 (d := d__law_narrow_right) rfl
  obtain ⟨fd__law_middle_right, F__law_middle_right⟩ := c.def_ 47 (d := d__law_middle_right) rfl
  obtain ⟨fd__law_long_right, F__law_long_right⟩ := c.def_ 48 (d := d__law_long_right) rfl
  obtain ⟨fd_law, F_law⟩ := c.def_ 49 (d := d_law) rfl
  have F_is_integer : FnP K "is_integer" s_is_integer [] [] (He.ga K "is_integer") fd_is_integer := F_is_integer
  have F_check_integer : FnP K "check_integer" s_check_integer [.non] [] (He.ga K "check_integer") fd_check_integer := F_check_integer
  have F_is_state : FnP K "is_state" s_is_state [] [] (He.ga K "is_state") fd_is_state := F_is_state
  have F_check_state : FnP K "check_state" s_check_state [] [] (He.ga K "check_state") fd_check_state := F_check_state
  have F_after_step : FnP K "after_step" s_after_step [] [] (He.ga K "after_step") fd_after_step := F_after_step
  have F_difference : FnP K "difference" s_difference [] [] (He.ga K "difference") fd_difference := F_difference
  have F_Band_includes : FnM K "includes" "Band.includes" s_Band_includes [] (He.ma K (He.ga K "Band") "includes") fd_Band_includes := F_Band_includes
  have F_Band_room : FnM K "room" "Band.room" s_Band_room [] (He.ma K (He.ga K "Band") "room") fd_Band_room := F_Band_room
  have F_Band___init__ : FnM K "__init__" "Band.__init__" s_Band___init__ [.non, .non] (He.ma K (He.ga K "Band") "__init__") fd_Band___init__ := F_Band___init__
  have F_to_band : FnP K "to_band" s_to_band [] [] (He.ga K "to_band") fd_to_band := F_to_band
  have F_check_height : FnP K "check_height" s_check_height [] [] (He.ga K "check_height") fd_check_height := F_check_height
  have F_capped : FnP K "capped" s_capped [] [] (He.ga K "capped") fd_capped := F_capped
  have F_depth_of : FnP K "depth_of" s_depth_of [] [] (He.ga K "depth_of") fd_depth_of := F_depth_of
  have F_Extents___init__ : FnM K "__init__" "Extents.__init__" s_Extents___init__ [] (He.ma K (He.ga K "Extents") "__init__") fd_Extents___init__ := F_Extents___init__
  have F_Extents_extent : FnM K "extent" "Extents.extent" s_Extents_extent [] (He.ma K (He.ga K "Extents") "extent") fd_Extents_extent := F_Extents_extent
  have F_Extents_breakpoints : FnM K "breakpoints" "Extents.breakpoints" s_Extents_breakpoints [] (He.ma K (He.ga K "Extents") "breakpoints") fd_Extents_breakpoints := F_Extents_breakpoints
  have F_Extents_peaks : FnM K "peaks" "Extents.peaks" s_Extents_peaks [] (He.ma K (He.ga K "Extents") "peaks") fd_Extents_peaks := F_Extents_peaks
  have F_Extents_best_split : FnM K "best_split" "Extents.best_split" s_Extents_best_split [] (He.ma K (He.ga K "Extents") "best_split") fd_Extents_best_split := F_Extents_best_split
  have F_Extents_greatest : FnM K "greatest" "Extents.greatest" s_Extents_greatest [] (He.ma K (He.ga K "Extents") "greatest") fd_Extents_greatest := F_Extents_greatest
  have F_Extents_fewest_pairs : FnM K "fewest_pairs" "Extents.fewest_pairs" s_Extents_fewest_pairs [] (He.ma K (He.ga K "Extents") "fewest_pairs") fd_Extents_fewest_pairs := F_Extents_fewest_pairs
  have F_extents_for : FnP K "extents_for" s_extents_for [] [] (He.ga K "extents_for") fd_extents_for := F_extents_for
  have F_range_with_pairs : FnP K "range_with_pairs" s_range_with_pairs [] [] (He.ga K "range_with_pairs") fd_range_with_pairs := F_range_with_pairs
  have F_fewest_pairs : FnP K "fewest_pairs" s_fewest_pairs [] [] (He.ga K "fewest_pairs") fd_fewest_pairs := F_fewest_pairs
  have F_fewest_steps : FnP K "fewest_steps" s_fewest_steps [] [] (He.ga K "fewest_steps") fd_fewest_steps := F_fewest_steps
  have F_displacement_and_room : FnP K "displacement_and_room" s_displacement_and_room [] [] (He.ga K "displacement_and_room") fd_displacement_and_room := F_displacement_and_room
  have F_distance_or_none : FnP K "distance_or_none" s_distance_or_none [] [] (He.ga K "distance_or_none") fd_distance_or_none := F_distance_or_none
  have F_distance : FnP K "distance" s_distance [] [("band", .non)] (He.ga K "distance") fd_distance := F_distance
  have F_pairs_for : FnP K "pairs_for" s_pairs_for [] [] (He.ga K "pairs_for") fd_pairs_for := F_pairs_for
  have F_sums_within : FnP K "sums_within" s_sums_within [] [] (He.ga K "sums_within") fd_sums_within := F_sums_within
  have F_sums_after : FnP K "sums_after" s_sums_after [] [("band", .non)] (He.ga K "sums_after") fd_sums_after := F_sums_after
  have F_is_reachable : FnP K "is_reachable" s_is_reachable [] [("band", .non)] (He.ga K "is_reachable") fd_is_reachable := F_is_reachable
  have F_extend_paths : FnP K "extend_paths" s_extend_paths [] [] (He.ga K "extend_paths") fd_extend_paths := F_extend_paths
  have F_count_paths : FnP K "count_paths" s_count_paths [] [("band", .non)] (He.ga K "count_paths") fd_count_paths := F_count_paths
  have F_count_shortest_paths : FnP K "count_shortest_paths" s_count_shortest_paths [] [("band", .non)] (He.ga K "count_shortest_paths") fd_count_shortest_paths := F_count_shortest_paths
  have F_good_steps : FnP K "good_steps" s_good_steps [] [] (He.ga K "good_steps") fd_good_steps := F_good_steps
  have F_next_steps : FnP K "next_steps" s_next_steps [] [("band", .non)] (He.ga K "next_steps") fd_next_steps := F_next_steps
  have F__law_take : FnP K "_law_take" s__law_take [] [] (He.ga K "_law_take") fd__law_take := F__law_take
  have F__law_pool : FnP K "_law_pool" s__law_pool [] [] (He.ga K "_law_pool") fd__law_pool := F__law_pool
  have F__law_integer : FnP K "_law_integer" s__law_integer [] [] (He.ga K "_law_integer") fd__law_integer := F__law_integer
  have F__law_inside : FnP K "_law_inside" s__law_inside [] [] (He.ga K "_law_inside") fd__law_inside := F__law_inside
  have F__law_after : FnP K "_law_after" s__law_after [] [] (He.ga K "_law_after") fd__law_after := F__law_after
  have F__law_ends : FnP K "_law_ends" s__law_ends [] [] (He.ga K "_law_ends") fd__law_ends := F__law_ends
  have F__law_end : FnP K "_law_end" s__law_end [] [] (He.ga K "_law_end") fd__law_end := F__law_end
  have F__law_table : FnP K "_law_table" s__law_table [] [] (He.ga K "_law_table") fd__law_table := F__law_table
  have F__law_lengths_right : FnP K "_law_lengths_right" s__law_lengths_right [] [] (He.ga K "_law_lengths_right") fd__law_lengths_right := F__law_lengths_right
  have F__law_shortest_right : FnP K "_law_shortest_right" s__law_shortest_right [] [] (He.ga K "_law_shortest_right") fd__law_shortest_right := F__law_shortest_right
  have F__law_narrow_right : FnP K "_law_narrow_right" s__law_narrow_right [] [] (He.ga K "_law_narrow_right") fd__law_narrow_right := F__law_narrow_right
  have F__law_middle_right : FnP K "_law_middle_right" s__law_middle_right [] [] (He.ga K "_law_middle_right") fd__law_middle_right := F__law_middle_right
  have F__law_long_right : FnP K "_law_long_right" s__law_long_right [] [] (He.ga K "_law_long_right") fd__law_long_right := F__law_long_right
  have F_law : FnP K "law" s_law [] [] (He.ga K "law") fd_law := F_law
  refine ⟨fd_law, fun s v => FunD.bindsA (ps := ["_law_script"]) F_law (fun _ _ _ _ _ _ us hl => match us, hl with | [_], _ => rfl) s [v] rfl, fun base _ _ => ?_⟩
  have o_is_integer := ok_is_integer (P := P) (w := w) (K := K) (mg := mg) (base := base) T F_is_integer
  have c_is_integer : Fn P w K mg base 1 "is_integer" [] ["value"] spIsInt := Fn.of (He.glo_ok X G (c.fact 0 (f := .glo "is_integer") rfl)) F_is_integer o_is_integer (fun _ _ _ _ _ _ us hl => match us, hl with | [_], _ => rfl)
  have o_check_integer := ok_check_integer (P := P) (w := w) (K := K) (mg := mg) (base := base) T c_is_integer F_check_integer
  have c_check_integer1 : Fn P w K mg base 2 "check_integer" [.non] ["value", "least"] spCheckInt := by
    obtain ⟨ds, r, b⟩ := FunD.binds1 (ps := ["value", "least"]) F_check_integer 1 0 (by intro z; cases z) rfl fun T kV doc pm an cdv ct us its hl hi => match us, hl, its, hi with | [_], _, [_], _ => ⟨_, rfl, rfl⟩
    exact ⟨(He.glo_ok X G (c.fact 1 (f := .glo "check_integer") rfl)), F_check_integer.kp, _, ds, o_check_integer, r, b⟩
  have c_check_integer2 : Fn P w K mg base 2 "check_integer" [] ["value", "least"] spCheckInt := by
    obtain ⟨ds, r, b⟩ := FunD.binds1 (ps := ["value", "least"]) F_check_integer 2 1 (by intro z; cases z) rfl fun T kV doc pm an cdv ct us its hl hi => match us, hl, its, hi with | [_, _], _, [_], _ => ⟨_, rfl, rfl⟩
    exact ⟨(He.glo_ok X G (c.fact 1 (f := .glo "check_integer") rfl)), F_check_integer.kp, _, ds, o_check_integer, r, b⟩
  have o_is_state := ok_is_state (P := P) (w := w) (K := K) (mg := mg) (base := base) T c_is_integer F_is_state
  have c_is_state : Fn P w K mg base 2 "is_state" [] ["value"] spIsState := Fn.of (He.glo_ok X G (c.fact 2 (f := .glo "is_state") rfl)) F_is_state o_is_state (fun _ _ _ _ _ _ us hl => match us, hl with | [_], _ => rfl)
  have o_check_state := ok_check_state (P := P) (w := w) (K := K) (mg := mg) (base := base) T c_is_state F_check_state
  have c_check_state : Fn P w K mg base 3 "check_state" [] ["value"] spCheckState := Fn.of (He.glo_ok X G (c.fact 3 (f := .glo "check_state") rfl)) F_check_state o_check_state (fun _ _ _ _ _ _ us hl => match us, hl with | [_], _ => rfl)
  have o_after_step := ok_after_step (P := P) (w := w) (K := K) (mg := mg) (base := base) T F_after_step
  have c_after_step : Fn P w K mg base 1 "after_step" [] ["state", "step"] spAfter := Fn.of (He.glo_ok X G (c.fact 4 (f := .glo "after_step") rfl)) F_after_step o_after_step (fun _ _ _ _ _ _ us hl => match us, hl with | [_, _], _ => rfl)
  have o_difference := ok_difference (P := P) (w := w) (K := K) (mg := mg) (base := base) T F_difference
  have c_difference : Fn P w K mg base 1 "difference" [] ["start", "end"] spDiff := Fn.of (He.glo_ok X G (c.fact 5 (f := .glo "difference") rfl)) F_difference o_difference (fun _ _ _ _ _ _ us hl => match us, hl with | [_, _], _ => rfl)
  have o_Band_includes := ok_includes (P := P) (w := w) (K := K) (mg := mg) (base := base) T F_Band_includes
  have m_Band_includes : Mh P w K mg base 1 "Band" "includes" ["self", "height"] (spIncludes K) := Mh.of (He.cls_ok (c.fact 57 (f := .cls "Band") rfl)) (He.meth_ok (c.fact 66 (f := .meth "Band" "includes") rfl)) F_Band_includes o_Band_includes (fun _ _ _ _ _ _ us hl => match us, hl with | [_, _], _ => rfl)
  have o_Band_room := ok_room (P := P) (w := w) (K := K) (mg := mg) (base := base) T c_check_integer1 m_Band_includes F_Band_room
  have m_Band_room : Mh P w K mg base 3 "Band" "room" ["self", "height"] (spRoom K) := Mh.of (He.cls_ok (c.fact 57 (f := .cls "Band") rfl)) (He.meth_ok (c.fact 67 (f := .meth "Band" "room") rfl)) F_Band_room o_Band_room (fun _ _ _ _ _ _ us hl => match us, hl with | [_, _], _ => rfl)
  have o_Band___init__ := ok_band_init (P := P) (w := w) (K := K) (mg := mg) (base := base) T c_is_integer F_Band___init__
  have k_Band0 : Mkr P w K mg base 2 "Band" [.non, .non] ["self", "low", "high"] (spBandInit K) := by
    obtain ⟨ds, r, b⟩ := FunD.binds1 (ps := ["self", "low", "high"]) F_Band___init__ 1 0 (by intro z; cases z) rfl fun T kV doc pm an cdv ct us its hl hi => match us, hl, its, hi with | [_], _, [_, _], _ => ⟨_, rfl, rfl⟩
    exact ⟨(He.glo_ok X G (c.fact 40 (f := .glo "Band") rfl)), He.mkr_ok (c.fact 74 (f := .mkr "Band") rfl), _, ds, o_Band___init__, r, b⟩
  have k_Band : Mkr P w K mg base 2 "Band" [] ["self", "low", "high"] (spBandInit K) := by
    obtain ⟨ds, r, b⟩ := FunD.binds1 (ps := ["self", "low", "high"]) F_Band___init__ 3 2 (by intro z; cases z) rfl fun T kV doc pm an cdv ct us its hl hi => match us, hl, its, hi with | [_, _, _], _, [_, _], _ => ⟨_, rfl, rfl⟩
    exact ⟨(He.glo_ok X G (c.fact 40 (f := .glo "Band") rfl)), He.mkr_ok (c.fact 74 (f := .mkr "Band") rfl), _, ds, o_Band___init__, r, b⟩
  have o_to_band := ok_to_band (P := P) (w := w) (K := K) (mg := mg) (base := base) T k_Band0 F_to_band
  have c_to_band : Fn P w K mg base 4 "to_band" [] ["value"] (spToBand K) := Fn.of (He.glo_ok X G (c.fact 6 (f := .glo "to_band") rfl)) F_to_band o_to_band (fun _ _ _ _ _ _ us hl => match us, hl with | [_], _ => rfl)
  have o_check_height := ok_check_height (P := P) (w := w) (K := K) (mg := mg) (base := base) T m_Band_includes F_check_height
  have c_check_height : Fn P w K mg base 2 "check_height" [] ["height", "band"] (spCheckHeight K) := Fn.of (He.glo_ok X G (c.fact 7 (f := .glo "check_height") rfl)) F_check_height o_check_height (fun _ _ _ _ _ _ us hl => match us, hl with | [_, _], _ => rfl)
  have o_capped := ok_capped (P := P) (w := w) (K := K) (mg := mg) (base := base) T F_capped
  have c_capped : Fn P w K mg base 1 "capped" [] ["number", "limit"] spCapped := Fn.of (He.glo_ok X G (c.fact 8 (f := .glo "capped") rfl)) F_capped o_capped (fun _ _ _ _ _ _ us hl => match us, hl with | [_, _], _ => rfl)
  have o_depth_of := ok_depth_of (P := P) (w := w) (K := K) (mg := mg) (base := base) T F_depth_of
  have c_depth_of : Fn P w K mg base 1 "depth_of" [] ["room"] spDepthOf := Fn.of (He.glo_ok X G (c.fact 9 (f := .glo "depth_of") rfl)) F_depth_of o_depth_of (fun _ _ _ _ _ _ us hl => match us, hl with | [_], _ => rfl)
  have o_Extents___init__ := ok_xt_init (P := P) (w := w) (K := K) (mg := mg) (base := base) T c_depth_of F_Extents___init__
  have k_Extents : Mkr P w K mg base 2 "Extents" [] ["self", "x", "h", "room", "sign"] (spXtInit K) := ⟨(He.glo_ok X G (c.fact 41 (f := .glo "Extents") rfl)), He.mkr_ok (c.fact 75 (f := .mkr "Extents") rfl), _, [], o_Extents___init__, .nil, F_Extents___init__.bindsN (fun _ _ _ _ _ _ us hl => match us, hl with | [_, _, _, _, _], _ => rfl)⟩
  have o_Extents_extent := ok_extent (P := P) (w := w) (K := K) (mg := mg) (base := base) T c_capped F_Extents_extent
  have m_Extents_extent : Mh P w K mg base 2 "Extents" "extent" ["self", "pairs", "split"] (spExtent K) := Mh.of (He.cls_ok (c.fact 58 (f := .cls "Extents") rfl)) (He.meth_ok (c.fact 70 (f := .meth "Extents" "extent") rfl)) F_Extents_extent o_Extents_extent (fun _ _ _ _ _ _ us hl => match us, hl with | [_, _, _], _ => rfl)
  have o_Extents_breakpoints := ok_breakpoints (P := P) (w := w) (K := K) (mg := mg) (base := base) T F_Extents_breakpoints
  have m_Extents_breakpoints : Mh P w K mg base 1 "Extents" "breakpoints" ["self", "pairs"] (spBrk K) := Mh.of (He.cls_ok (c.fact 58 (f := .cls "Extents") rfl)) (He.meth_ok (c.fact 69 (f := .meth "Extents" "breakpoints") rfl)) F_Extents_breakpoints o_Extents_breakpoints (fun _ _ _ _ _ _ us hl => match us, hl with | [_, _], _ => rfl)
  have o_Extents_peaks := ok_peaks (P := P) (w := w) (K := K) (mg := mg) (base := base) T m_Extents_breakpoints F_Extents_peaks
  have m_Extents_peaks : Mh P w K mg base 2 "Extents" "peaks" ["self", "pairs"] (spPeaks K) := Mh.of (He.cls_ok (c.fact 58 (f := .cls "Extents") rfl)) (He.meth_ok (c.fact 73 (f := .meth "Extents" "peaks") rfl)) F_Extents_peaks o_Extents_peaks (fun _ _ _ _ _ _ us hl => match us, hl with | [_, _], _ => rfl)
  have o_Extents_best_split := ok_best_split (P := P) (w := w) (K := K) (mg := mg) (base := base) T m_Extents_peaks m_Extents_extent F_Extents_best_split
  have m_Extents_best_split : Mh P w K mg base 3 "Extents" "best_split" ["self", "pairs"] (spBest K) := Mh.of (He.cls_ok (c.fact 58 (f := .cls "Extents") rfl)) (He.meth_ok (c.fact 68 (f := .meth "Extents" "best_split") rfl)) F_Extents_best_split o_Extents_best_split (fun _ _ _ _ _ _ us hl => match us, hl with | [_, _], _ => rfl)
  have o_Extents_greatest := ok_greatest (P := P) (w := w) (K := K) (mg := mg) (base := base) T m_Extents_best_split m_Extents_extent F_Extents_greatest
  have m_Extents_greatest : Mh P w K mg base 4 "Extents" "greatest" ["self", "pairs"] (spGreatest K) := Mh.of (He.cls_ok (c.fact 58 (f := .cls "Extents") rfl)) (He.meth_ok (c.fact 72 (f := .meth "Extents" "greatest") rfl)) F_Extents_greatest o_Extents_greatest (fun _ _ _ _ _ _ us hl => match us, hl with | [_, _], _ => rfl)
  have o_Extents_fewest_pairs := ok_fewM (P := P) (w := w) (K := K) (mg := mg) (base := base) T m_Extents_greatest F_Extents_fewest_pairs
  have m_Extents_fewest_pairs : Mh P w K mg base 5 "Extents" "fewest_pairs" ["self", "target"] (spFewM K) := Mh.of (He.cls_ok (c.fact 58 (f := .cls "Extents") rfl)) (He.meth_ok (c.fact 71 (f := .meth "Extents" "fewest_pairs") rfl)) F_Extents_fewest_pairs o_Extents_fewest_pairs (fun _ _ _ _ _ _ us hl => match us, hl with | [_, _], _ => rfl)
  have o_extents_for := ok_extents_for (P := P) (w := w) (K := K) (mg := mg) (base := base) T k_Extents F_extents_for
  have c_extents_for : Fn P w K mg base 4 "extents_for" [] ["displacement", "room"] (spExtFor K) := Fn.of (He.glo_ok X G (c.fact 10 (f := .glo "extents_for") rfl)) F_extents_for o_extents_for (fun _ _ _ _ _ _ us hl => match us, hl with | [_, _], _ => rfl)
  have o_range_with_pairs := ok_range (P := P) (w := w) (K := K) (mg := mg) (base := base) T k_Extents m_Extents_greatest F_range_with_pairs
  have c_range_with_pairs : Fn P w K mg base 5 "range_with_pairs" [] ["x", "h", "pairs", "room"] spRange := Fn.of (He.glo_ok X G (c.fact 11 (f := .glo "range_with_pairs") rfl)) F_range_with_pairs o_range_with_pairs (fun _ _ _ _ _ _ us hl => match us, hl with | [_, _, _, _], _ => rfl)
  have o_fewest_pairs := ok_fewest_pairs (P := P) (w := w) (K := K) (mg := mg) (base := base) T c_extents_for m_Extents_fewest_pairs F_fewest_pairs
  have c_fewest_pairs : Fn P w K mg base 6 "fewest_pairs" [] ["displacement", "room"] spFewP := Fn.of (He.glo_ok X G (c.fact 12 (f := .glo "fewest_pairs") rfl)) F_fewest_pairs o_fewest_pairs (fun _ _ _ _ _ _ us hl => match us, hl with | [_, _], _ => rfl)
  have o_fewest_steps := ok_fewest_steps (P := P) (w := w) (K := K) (mg := mg) (base := base) T c_fewest_pairs F_fewest_steps
  have c_fewest_steps : Fn P w K mg base 7 "fewest_steps" [] ["displacement", "room"] spFewS := Fn.of (He.glo_ok X G (c.fact 13 (f := .glo "fewest_steps") rfl)) F_fewest_steps o_fewest_steps (fun _ _ _ _ _ _ us hl => match us, hl with | [_, _], _ => rfl)
  have o_displacement_and_room := ok_disp_room (P := P) (w := w) (K := K) (mg := mg) (base := base) T c_check_state c_to_band m_Band_room c_check_height c_difference F_displacement_and_room
  have c_displacement_and_room : Fn P w K mg base 5 "displacement_and_room" [] ["start", "end", "band"] (spDispRoom K) := Fn.of (He.glo_ok X G (c.fact 14 (f := .glo "displacement_and_room") rfl)) F_displacement_and_room o_displacement_and_room (fun _ _ _ _ _ _ us hl => match us, hl with | [_, _, _], _ => rfl)
  have o_distance_or_none := ok_dist_none (P := P) (w := w) (K := K) (mg := mg) (base := base) T c_difference m_Band_room c_fewest_steps F_distance_or_none
  have c_distance_or_none : Fn P w K mg base 8 "distance_or_none" [] ["start", "end", "limits"] (spDistN K) := Fn.of (He.glo_ok X G (c.fact 15 (f := .glo "distance_or_none") rfl)) F_distance_or_none o_distance_or_none (fun _ _ _ _ _ _ us hl => match us, hl with | [_, _, _], _ => rfl)
  have o_distance := ok_distance (P := P) (w := w) (K := K) (mg := mg) (base := base) T c_displacement_and_room c_fewest_steps F_distance
  have ck_distance : KFn P w K mg base 8 2 "distance" ["start", "end", "band"] (spDist K) := KFn.of (He.glo_ok X G (c.fact 16 (f := .glo "distance") rfl)) F_distance o_distance (fun _ _ _ _ _ _ us ws hl hw => match us, hl, ws, hw with | [_, _], _, [_], _ => rfl)
  have o_pairs_for := ok_pairs_for (P := P) (w := w) (K := K) (mg := mg) (base := base) T F_pairs_for
  have c_pairs_for : Fn P w K mg base 1 "pairs_for" [] ["x", "h", "length"] spPairsFor := Fn.of (He.glo_ok X G (c.fact 17 (f := .glo "pairs_for") rfl)) F_pairs_for o_pairs_for (fun _ _ _ _ _ _ us hl => match us, hl with | [_, _, _], _ => rfl)
  have o_sums_within := ok_within (P := P) (w := w) (K := K) (mg := mg) (base := base) T c_pairs_for m_Band_includes m_Band_room c_range_with_pairs F_sums_within
  have c_sums_within : Fn P w K mg base 6 "sums_within" [] ["start", "x", "h", "length", "limits"] (spWithin K) := Fn.of (He.glo_ok X G (c.fact 18 (f := .glo "sums_within") rfl)) F_sums_within o_sums_within (fun _ _ _ _ _ _ us hl => match us, hl with | [_, _, _, _, _], _ => rfl)
  have o_sums_after := ok_sums_after (P := P) (w := w) (K := K) (mg := mg) (base := base) T c_check_state c_check_integer1 c_check_integer2 c_to_band c_check_height c_sums_within F_sums_after
  have ck_sums_after : KFn P w K mg base 7 4 "sums_after" ["start", "x", "h", "length", "band"] (spSumsAfter K) := KFn.of (He.glo_ok X G (c.fact 19 (f := .glo "sums_after") rfl)) F_sums_after o_sums_after (fun _ _ _ _ _ _ us ws hl hw => match us, hl, ws, hw with | [_, _, _, _], _, [_], _ => rfl)
  have o_is_reachable := ok_reach (P := P) (w := w) (K := K) (mg := mg) (base := base) T c_check_state ck_sums_after F_is_reachable
  have ck_is_reachable : KFn P w K mg base 8 3 "is_reachable" ["start", "end", "length", "band"] (spReach K) := KFn.of (He.glo_ok X G (c.fact 20 (f := .glo "is_reachable") rfl)) F_is_reachable o_is_reachable (fun _ _ _ _ _ _ us ws hl hw => match us, hl, ws, hw with | [_, _, _], _, [_], _ => rfl)
  have o_extend_paths := ok_extend (P := P) (w := w) (K := K) (mg := mg) (base := base) T c_after_step m_Band_includes F_extend_paths
  have c_extend_paths : Fn P w K mg base 2 "extend_paths" [] ["counts", "limits"] (spExtend K) := Fn.of (He.glo_ok X G (c.fact 21 (f := .glo "extend_paths") rfl)) F_extend_paths o_extend_paths (fun _ _ _ _ _ _ us hl => match us, hl with | [_, _], _ => rfl)
  have o_count_paths := ok_count (P := P) (w := w) (K := K) (mg := mg) (base := base) T c_check_state c_check_integer2 c_to_band c_displacement_and_room c_extend_paths F_count_paths
  have ck_count_paths : KFn P w K mg base 6 3 "count_paths" ["start", "end", "length", "band"] (spCount K) := KFn.of (He.glo_ok X G (c.fact 22 (f := .glo "count_paths") rfl)) F_count_paths o_count_paths (fun _ _ _ _ _ _ us ws hl hw => match us, hl, ws, hw with | [_, _, _], _, [_], _ => rfl)
  have c_count_paths : Fn P w K mg base 6 "count_paths" [.non] ["start", "end", "length", "band"] (spCount K) := by
    obtain ⟨ds, r, b⟩ := FunD.binds0 (ps := ["start", "end", "length", "band"]) F_count_paths 3 (by intro z; cases z) rfl fun D doc pm an cdv ct us ks hl hk => match us, hl, ks, hk with | [_, _, _], _, [_], _ => ⟨_, _, _, _, _, _, rfl, rfl, rfl⟩
    exact ⟨(He.glo_ok X G (c.fact 22 (f := .glo "count_paths") rfl)), F_count_paths.kp, _, ds, o_count_paths, r, b⟩
  have o_count_shortest_paths := ok_short (P := P) (w := w) (K := K) (mg := mg) (base := base) T ck_distance c_to_band c_extend_paths c_distance_or_none F_count_shortest_paths
  have ck_count_shortest_paths : KFn P w K mg base 9 2 "count_shortest_paths" ["start", "end", "band"] (spShort K) := KFn.of (He.glo_ok X G (c.fact 23 (f := .glo "count_shortest_paths") rfl)) F_count_shortest_paths o_count_shortest_paths (fun _ _ _ _ _ _ us ws hl hw => match us, hl, ws, hw with | [_, _], _, [_], _ => rfl)
  have c_count_shortest_paths : Fn P w K mg base 9 "count_shortest_paths" [.non] ["start", "end", "band"] (spShort K) := by
    obtain ⟨ds, r, b⟩ := FunD.binds0 (ps := ["start", "end", "band"]) F_count_shortest_paths 2 (by intro z; cases z) rfl fun D doc pm an cdv ct us ks hl hk => match us, hl, ks, hk with | [_, _], _, [_], _ => ⟨_, _, _, _, _, _, rfl, rfl, rfl⟩
    exact ⟨(He.glo_ok X G (c.fact 23 (f := .glo "count_shortest_paths") rfl)), F_count_shortest_paths.kp, _, ds, o_count_shortest_paths, r, b⟩
  have o_good_steps := ok_good (P := P) (w := w) (K := K) (mg := mg) (base := base) T c_distance_or_none c_after_step m_Band_includes F_good_steps
  have c_good_steps : Fn P w K mg base 9 "good_steps" [] ["state", "goal", "limits"] (spGood K) := Fn.of (He.glo_ok X G (c.fact 24 (f := .glo "good_steps") rfl)) F_good_steps o_good_steps (fun _ _ _ _ _ _ us hl => match us, hl with | [_, _, _], _ => rfl)
  have o_next_steps := ok_next (P := P) (w := w) (K := K) (mg := mg) (base := base) T ck_distance c_to_band c_good_steps F_next_steps
  have ck_next_steps : KFn P w K mg base 10 2 "next_steps" ["state", "goal", "band"] (spNext K) := KFn.of (He.glo_ok X G (c.fact 25 (f := .glo "next_steps") rfl)) F_next_steps o_next_steps (fun _ _ _ _ _ _ us ws hl hw => match us, hl, ws, hw with | [_, _], _, [_], _ => rfl)
  have o__law_take := ok_take (P := P) (w := w) (K := K) (mg := mg) (base := base) T F__law_take
  have c__law_take : Fn P w K mg base 1 "_law_take" [] ["_law_pool_here", "_law_bound"] spTake := Fn.of (He.glo_ok X G (c.fact 26 (f := .glo "_law_take") rfl)) F__law_take o__law_take (fun _ _ _ _ _ _ us hl => match us, hl with | [_, _], _ => rfl)
  have o__law_pool := ok_pool (P := P) (w := w) (K := K) (mg := mg) (base := base) T F__law_pool
  have c__law_pool : Fn P w K mg base 1 "_law_pool" [] ["_law_script", "_law_k"] (spPool K) := Fn.of (He.glo_ok X G (c.fact 27 (f := .glo "_law_pool") rfl)) F__law_pool o__law_pool (fun _ _ _ _ _ _ us hl => match us, hl with | [_, _], _ => rfl)
  have o__law_integer := ok_integer (P := P) (w := w) (K := K) (mg := mg) (base := base) T c__law_take F__law_integer
  have c__law_integer : Fn P w K mg base 2 "_law_integer" [] ["_law_pool_here"] spInteger := Fn.of (He.glo_ok X G (c.fact 28 (f := .glo "_law_integer") rfl)) F__law_integer o__law_integer (fun _ _ _ _ _ _ us hl => match us, hl with | [_], _ => rfl)
  have o__law_inside := ok_inside (P := P) (w := w) (K := K) (mg := mg) (base := base) T F__law_inside
  have c__law_inside : Fn P w K mg base 1 "_law_inside" [] ["_law_ends_here", "_law_level"] spInside := Fn.of (He.glo_ok X G (c.fact 29 (f := .glo "_law_inside") rfl)) F__law_inside o__law_inside (fun _ _ _ _ _ _ us hl => match us, hl with | [_, _], _ => rfl)
  have o__law_after := ok_law_after (P := P) (w := w) (K := K) (mg := mg) (base := base) T F__law_after
  have c__law_after : Fn P w K mg base 1 "_law_after" [] ["_law_state", "_law_step"] spAfter := Fn.of (He.glo_ok X G (c.fact 30 (f := .glo "_law_after") rfl)) F__law_after o__law_after (fun _ _ _ _ _ _ us hl => match us, hl with | [_, _], _ => rfl)
  have o__law_ends := ok_ends (P := P) (w := w) (K := K) (mg := mg) (base := base) T c__law_take F__law_ends
  have c__law_ends : Fn P w K mg base 2 "_law_ends" [] ["_law_pool_here", "_law_low", "_law_high"] spEnds := Fn.of (He.glo_ok X G (c.fact 31 (f := .glo "_law_ends") rfl)) F__law_ends o__law_ends (fun _ _ _ _ _ _ us hl => match us, hl with | [_, _, _], _ => rfl)
  have o__law_end := ok_end (P := P) (w := w) (K := K) (mg := mg) (base := base) T c__law_take c__law_after c__law_inside F__law_end
  have c__law_end : Fn P w K mg base 2 "_law_end" [] ["_law_pool_here", "_law_start", "_law_ends_here"] spEnd := Fn.of (He.glo_ok X G (c.fact 32 (f := .glo "_law_end") rfl)) F__law_end o__law_end (fun _ _ _ _ _ _ us hl => match us, hl with | [_, _, _], _ => rfl)
  have o__law_table := ok_table (P := P) (w := w) (K := K) (mg := mg) (base := base) T c__law_after F__law_table
  have c__law_table : Fn P w K mg base 2 "_law_table" [] ["_law_start", "_law_count"] spTable := Fn.of (He.glo_ok X G (c.fact 33 (f := .glo "_law_table") rfl)) F__law_table o__law_table (fun _ _ _ _ _ _ us hl => match us, hl with | [_, _], _ => rfl)
  have o__law_lengths_right := ok_lengths (P := P) (w := w) (K := K) (mg := mg) (base := base) T ck_count_paths ck_is_reachable c__law_after c__law_inside F__law_lengths_right
  have c__law_lengths_right : Fn P w K mg base 9 "_law_lengths_right" [] ["_law_start", "_law_end_here", "_law_ends_here", "_law_limits", "_law_most"] (spLengths K) := Fn.of (He.glo_ok X G (c.fact 34 (f := .glo "_law_lengths_right") rfl)) F__law_lengths_right o__law_lengths_right (fun _ _ _ _ _ _ us hl => match us, hl with | [_, _, _, _, _], _ => rfl)
  have o__law_shortest_right := ok_shortest (P := P) (w := w) (K := K) (mg := mg) (base := base) T ck_distance ck_count_shortest_paths ck_count_paths ck_next_steps c__law_after F__law_shortest_right
  have c__law_shortest_right : Fn P w K mg base 11 "_law_shortest_right" [] ["_law_start", "_law_end_here", "_law_limits"] (spShortest K) := Fn.of (He.glo_ok X G (c.fact 35 (f := .glo "_law_shortest_right") rfl)) F__law_shortest_right o__law_shortest_right (fun _ _ _ _ _ _ us hl => match us, hl with | [_, _, _], _ => rfl)
  have o__law_narrow_right := ok_narrow (P := P) (w := w) (K := K) (mg := mg) (base := base) T ck_distance ck_count_shortest_paths ck_count_paths k_Band c__law_take c__law_after c__law_inside F__law_narrow_right
  have c__law_narrow_right : Fn P w K mg base 10 "_law_narrow_right" [] ["_law_pool_here", "_law_start"] spPS := Fn.of (He.glo_ok X G (c.fact 36 (f := .glo "_law_narrow_right") rfl)) F__law_narrow_right o__law_narrow_right (fun _ _ _ _ _ _ us hl => match us, hl with | [_, _], _ => rfl)
  have o__law_middle_right := ok_middle (P := P) (w := w) (K := K) (mg := mg) (base := base) T c_count_paths c__law_take c__law_end c__law_table F__law_middle_right
  have c__law_middle_right : Fn P w K mg base 7 "_law_middle_right" [] ["_law_pool_here", "_law_start"] spPS := Fn.of (He.glo_ok X G (c.fact 37 (f := .glo "_law_middle_right") rfl)) F__law_middle_right o__law_middle_right (fun _ _ _ _ _ _ us hl => match us, hl with | [_, _], _ => rfl)
  have o__law_long_right := ok_long (P := P) (w := w) (K := K) (mg := mg) (base := base) T ck_count_paths c_count_shortest_paths k_Band c__law_end c__law_narrow_right c__law_middle_right c__law_take c__law_after c__law_inside F__law_long_right
  have c__law_long_right : Fn P w K mg base 11 "_law_long_right" [] ["_law_pool_here", "_law_start", "_law_ends_here", "_law_limits"] (spLong K) := Fn.of (He.glo_ok X G (c.fact 38 (f := .glo "_law_long_right") rfl)) F__law_long_right o__law_long_right (fun _ _ _ _ _ _ us hl => match us, hl with | [_, _, _, _], _ => rfl)
  have o_law := ok_law (P := P) (w := w) (K := K) (mg := mg) (base := base) T k_Band c__law_pool c__law_integer c__law_ends c__law_end c__law_take c__law_lengths_right c__law_shortest_right c__law_long_right F_law
  exact o_law
end
end Hs
set_option maxHeartbeats 0
open PySem PySem.W PySem.Calls PyProof.Rows
theorem PySem.Challenge.cw_heightsums_k51_whole_paths_and_their_fir_holds : PySem.Challenge.rw_heightsums_k51_whole_paths_and_their_fir.Holds := by
  w_on; o_law
  refine HandSHeadRun.head_any (r := OpenLaw.row PySem.Challenge.rw_heightsums_k51_whole_paths_and_their_fir) (q := view (OpenLaw.row PySem.Challenge.rw_heightsums_k51_whole_paths_and_their_fir).prog [64]) (H := Hs.hk) (ob := Hs.ob) (M := 6000) (loose := Hs.loose) (d := HandSHeadRun.topDef (OpenLaw.row PySem.Challenge.rw_heightsums_k51_whole_paths_and_their_fir).prog 64) (kwd := []) Hs.ob_eq
    (by kernel_rfl) (fun s => by kernel_rfl) Hs.run (by kernel_rfl) (by kernel_rfl) (by kernel_rfl) (by rfl) (by first | assumption | decide +kernel) (by decide +kernel) ⟨rfl, rfl, rfl, rfl, rfl, by decide +kernel⟩ ?hw ?hc
  case hw => w_witness2
  case hc =>
    refine L2.walk_ofE (l := PySem.Challenge.rw_heightsums_k51_whole_paths_and_their_fir) (n := 63) (k := 12) (x := "_law_script") (CX := L2.CX0) rfl (by decide) (by kernel_rfl) ⟨rfl, by decide, by decide⟩ ?F (fun _ _ _ _ z => z)
    intro w mg fa h Y G hmg0
    obtain ⟨K, KX, c⟩ := Y
    have hmg : mg ("law" : PySem.Str) = some (.ref fa) := by
      have e : (HandSHeadRun.topDef (OpenLaw.row PySem.Challenge.rw_heightsums_k51_whole_paths_and_their_fir).prog 64).name = ("law" : PySem.Str) := by kernel_rfl
      rw [← e]
      exact hmg0
    obtain ⟨fd, hb, hF⟩ := Hs.facts (P := (PySem.Challenge.rw_heightsums_k51_whole_paths_and_their_fir).prog) (w := w) KX G c.t.d c.more
    have ea : fa = He.ga K "law" := Value.ref.inj (Option.some.inj (hmg.symm.trans (He.glo_ok KX G (c.t.d.fact 39 (f := .glo "law") rfl))))
    subst ea
    exact ⟨K, fd, Hs.spLaw K, KX, hb, fun H a ns hl _ hS => ⟨a, ns, rfl, hS, fun _ => rfl⟩, hF⟩
