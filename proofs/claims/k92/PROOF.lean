import PyProof.Rows.All
import Wide.All
import OpenK.AllK
import Wide.FinOn
import HandS.ForMost
import HandS.ForExc
import HandS.Evl
import HandS.HeadHook1
import HandS.WideBits
import HandS.Wide
import HandS.SortInts
import HandS.TupAny
import HandS.TryOnly
import HandS.Walk
import HandS.Zip
import HandS.Conv
import HandS.Style
import HandS.Deep
import HandS.More
import HandS.DictComp
import HandS.IsInst
import HandS.SetFor
import HandS.Small
import HandS.HeadHook2
import HandS.Ends
import HandS.Defaults
import HandS.WordsExc
import HandS.Strs
import HandS.CallRecv
import HandS.Star
import KE.SortData
import KE.BitLaws
import HandS.Head2
import HandS.HeadEnd
import PySem.Challenge.RW_bitstages_k92_whole_no_fewer_stages
set_option Elab.async false
set_option linter.all false
set_option maxRecDepth 100000
set_option maxHeartbeats 4000000
namespace DN
open PySem PySem.Spec PyProof.Rows L2
def sysB (K : PySem.W.Frag) : Bool := match K.lookup sysModules with
  | some o => decide (o.cls = .type "dict")
  | none => false
def bfNames : List Str := ["len", "range", "enumerate", "zip", "sorted", "list", "tuple", "int", "bool", "str", "abs", "max", "min", "sum", "all", "any", "repr", "isinstance", "divmod", "set", "dict", "ValueError"]
def bfFacts : List He.Fa := bfNames.map He.Fa.free
def obsS (n : Nat) (fa : List He.Fa) (fn : List He.DefD) (g : Addr → Option Obj) : He.AlD × Bool := (He.obsD fa fn (He.frG g (He.asD g n ++ [sysModules])), sysB (He.frG g (He.asD g n ++ [sysModules])))
def hookS (n : Nat) (fa : List He.Fa) (fn : List He.DefD) : PySem.W.Hook where
  α := He.AlD × Bool
  obs := fun s => obsS n fa fn s.heap.get?
  val := fun _ => (He.valD fn, true)
  says := fun _ h => ∃ K : PySem.W.Frag, K.In h ∧ He.SaysD fa fn K ∧ sysB K = true
  of := fun _ _ e => ⟨_, He.frG_in, congrArg Prod.fst e, congrArg Prod.snd e⟩
  keeps := fun _ _ _ ⟨K, hK, c⟩ k => ⟨K, PySem.W.Frag.In.keeps hK k, c⟩
theorem obsS_eq {n : Nat} {fa : List He.Fa} {fn : List He.DefD} {g : Addr → Option Obj} {s : Shared} (h : ∀ a, g a = s.heap.get? a) : obsS n fa fn g = (hookS n fa fn).obs s := by
  have e : g = s.heap.get? := funext h
  rw [e] <;> rfl
end DN
namespace K92
open PySem PySem.Spec PyProof.Rows L2 DN
def top (i : Nat) : Stmt := PySem.Challenge.pw_bitstages_k92_whole_no_fewer_stages.main.body.getD i (.Pass ⟨0, 0, 0, 0⟩)
abbrev st_is_integer : Stmt := top 10
abbrev st_need_few : Stmt := top 12
abbrev st_parity : Stmt := top 16
abbrev st_bits_of : Stmt := top 17
abbrev st_mask_of : Stmt := top 18
abbrev st_reduced : Stmt := top 19
abbrev st_put_together : Stmt := top 20
abbrev st_need_like : Stmt := top 24
abbrev st_identity : Stmt := top 26
abbrev st_is_moving : Stmt := top 29
abbrev st_changed_of : Stmt := top 30
abbrev st_independent_count : Stmt := top 32
abbrev st_sequence_to : Stmt := top 47
abbrev st_rings_of : Stmt := top 50
abbrev st__law_source : Stmt := top 64
abbrev st__law_draw : Stmt := top 65
abbrev st__law_odd : Stmt := top 66
abbrev st__law_width : Stmt := top 73
abbrev st__law_unlike : Stmt := top 74
abbrev st_need_bits : Stmt := top 11
abbrev st_is_place : Stmt := top 13
abbrev st_are_bits : Stmt := top 15
abbrev st_moved : Stmt := top 25
abbrev st_made_by : Stmt := top 38
abbrev st_is_independent : Stmt := top 44
abbrev st_once_of : Stmt := top 45
abbrev st_best_of_move : Stmt := top 51
abbrev st__law_some_stage : Stmt := top 67
abbrev st__law_made : Stmt := top 69
abbrev st__law_mixed : Stmt := top 70
abbrev st_need_place : Stmt := top 14
abbrev st_mapping_fault : Stmt := top 22
abbrev st_behind : Stmt := top 27
abbrev st_fits : Stmt := top 35
abbrev st_sets_before : Stmt := top 46
abbrev st_cost_of : Stmt := top 48
abbrev st__law_path : Stmt := top 68
abbrev st__law_sequence : Stmt := top 71
abbrev st_need_mapping : Stmt := top 23
abbrev st_run_fault : Stmt := top 36
abbrev st_best_with_sequence : Stmt := top 49
abbrev st__law_plan : Stmt := top 72
abbrev st_then : Stmt := top 28
abbrev st_need_run : Stmt := top 37
abbrev st_best_of : Stmt := top 52
abbrev st_need_searched : Stmt := top 53
abbrev st_need_twice : Stmt := top 54
abbrev st_need_both : Stmt := top 39
abbrev st_fewest_of : Stmt := top 55
abbrev st_serves : Stmt := top 57
abbrev st_serving_sequence : Stmt := top 58
abbrev st_barring_sets : Stmt := top 59
abbrev st_shows_serving : Stmt := top 60
abbrev st_shows_barring : Stmt := top 61
abbrev st_best_twice : Stmt := top 62
abbrev st_run_mapping : Stmt := top 40
abbrev st_fewest_stages : Stmt := top 56
abbrev st__law_barred_right : Stmt := top 75
abbrev st__law_right : Stmt := top 76
abbrev st_law : Stmt := top 77
def D_is_integer : He.DefD := ⟨("is_integer", none), "is_integer", "is_integer", defArgs st_is_integer, defBody st_is_integer, defScope st_is_integer, [.non, .non], []⟩
def D_need_few : He.DefD := ⟨("need_few", none), "need_few", "need_few", defArgs st_need_few, defBody st_need_few, defScope st_need_few, [], []⟩
def D_parity : He.DefD := ⟨("parity", none), "parity", "parity", defArgs st_parity, defBody st_parity, defScope st_parity, [], []⟩
def D_bits_of : He.DefD := ⟨("bits_of", none), "bits_of", "bits_of", defArgs st_bits_of, defBody st_bits_of, defScope st_bits_of, [], []⟩
def D_mask_of : He.DefD := ⟨("mask_of", none), "mask_of", "mask_of", defArgs st_mask_of, defBody st_mask_of, defScope st_mask_of, [], []⟩
def D_reduced : He.DefD := ⟨("reduced", none), "reduced", "reduced", defArgs st_reduced, defBody st_reduced, defScope st_reduced, [], []⟩
def D_put_together : He.DefD := ⟨("put_together", none), "put_together", "put_together", defArgs st_put_together, defBody st_put_together, defScope st_put_together, [], []⟩
def D_need_like : He.DefD := ⟨("need_like", none), "need_like", "need_like", defArgs st_need_like, defBody st_need_like, defScope st_need_like, [], []⟩
def D_identity : He.DefD := ⟨("identity", none), "identity", "identity", defArgs st_identity, defBody st_identity, defScope st_identity, [], []⟩
def D_is_moving : He.DefD := ⟨("is_moving", none), "is_moving", "is_moving", defArgs st_is_moving, defBody st_is_moving, defScope st_is_moving, [], []⟩
def D_changed_of : He.DefD := ⟨("changed_of", none), "changed_of", "changed_of", defArgs st_changed_of, defBody st_changed_of, defScope st_changed_of, [], []⟩
def D_independent_count : He.DefD := ⟨("independent_count", none), "independent_count", "independent_count", defArgs st_independent_count, defBody st_independent_count, defScope st_independent_count, [], []⟩
def D_sequence_to : He.DefD := ⟨("sequence_to", none), "sequence_to", "sequence_to", defArgs st_sequence_to, defBody st_sequence_to, defScope st_sequence_to, [], []⟩
def D_rings_of : He.DefD := ⟨("rings_of", none), "rings_of", "rings_of", defArgs st_rings_of, defBody st_rings_of, defScope st_rings_of, [], []⟩
def D__law_source : He.DefD := ⟨("_law_source", none), "_law_source", "_law_source", defArgs st__law_source, defBody st__law_source, defScope st__law_source, [], []⟩
def D__law_draw : He.DefD := ⟨("_law_draw", none), "_law_draw", "_law_draw", defArgs st__law_draw, defBody st__law_draw, defScope st__law_draw, [], []⟩
def D__law_odd : He.DefD := ⟨("_law_odd", none), "_law_odd", "_law_odd", defArgs st__law_odd, defBody st__law_odd, defScope st__law_odd, [], []⟩
def D__law_width : He.DefD := ⟨("_law_width", none), "_law_width", "_law_width", defArgs st__law_width, defBody st__law_width, defScope st__law_width, [], []⟩
def D__law_unlike : He.DefD := ⟨("_law_unlike", none), "_law_unlike", "_law_unlike", defArgs st__law_unlike, defBody st__law_unlike, defScope st__law_unlike, [], []⟩
def D_need_bits : He.DefD := ⟨("need_bits", none), "need_bits", "need_bits", defArgs st_need_bits, defBody st_need_bits, defScope st_need_bits, [], []⟩
def D_is_place : He.DefD := ⟨("is_place", none), "is_place", "is_place", defArgs st_is_place, defBody st_is_place, defScope st_is_place, [], []⟩
def D_are_bits : He.DefD := ⟨("are_bits", none), "are_bits", "are_bits", defArgs st_are_bits, defBody st_are_bits, defScope st_are_bits, [], []⟩
def D_moved : He.DefD := ⟨("moved", none), "moved", "moved", defArgs st_moved, defBody st_moved, defScope st_moved, [], []⟩
def D_made_by : He.DefD := ⟨("made_by", none), "made_by", "made_by", defArgs st_made_by, defBody st_made_by, defScope st_made_by, [], []⟩
def D_is_independent : He.DefD := ⟨("is_independent", none), "is_independent", "is_independent", defArgs st_is_independent, defBody st_is_independent, defScope st_is_independent, [], []⟩
def D_once_of : He.DefD := ⟨("once_of", none), "once_of", "once_of", defArgs st_once_of, defBody st_once_of, defScope st_once_of, [], []⟩
def D_best_of_move : He.DefD := ⟨("best_of_move", none), "best_of_move", "best_of_move", defArgs st_best_of_move, defBody st_best_of_move, defScope st_best_of_move, [], []⟩
def D__law_some_stage : He.DefD := ⟨("_law_some_stage", none), "_law_some_stage", "_law_some_stage", defArgs st__law_some_stage, defBody st__law_some_stage, defScope st__law_some_stage, [], []⟩
def D__law_made : He.DefD := ⟨("_law_made", none), "_law_made", "_law_made", defArgs st__law_made, defBody st__law_made, defScope st__law_made, [], []⟩
def D__law_mixed : He.DefD := ⟨("_law_mixed", none), "_law_mixed", "_law_mixed", defArgs st__law_mixed, defBody st__law_mixed, defScope st__law_mixed, [], []⟩
def D_need_place : He.DefD := ⟨("need_place", none), "need_place", "need_place", defArgs st_need_place, defBody st_need_place, defScope st_need_place, [], []⟩
def D_mapping_fault : He.DefD := ⟨("mapping_fault", none), "mapping_fault", "mapping_fault", defArgs st_mapping_fault, defBody st_mapping_fault, defScope st_mapping_fault, [], []⟩
def D_behind : He.DefD := ⟨("behind", none), "behind", "behind", defArgs st_behind, defBody st_behind, defScope st_behind, [], []⟩
def D_fits : He.DefD := ⟨("fits", none), "fits", "fits", defArgs st_fits, defBody st_fits, defScope st_fits, [], []⟩
def D_sets_before : He.DefD := ⟨("sets_before", none), "sets_before", "sets_before", defArgs st_sets_before, defBody st_sets_before, defScope st_sets_before, [], []⟩
def D_cost_of : He.DefD := ⟨("cost_of", none), "cost_of", "cost_of", defArgs st_cost_of, defBody st_cost_of, defScope st_cost_of, [], []⟩
def D__law_path : He.DefD := ⟨("_law_path", none), "_law_path", "_law_path", defArgs st__law_path, defBody st__law_path, defScope st__law_path, [], []⟩
def D__law_sequence : He.DefD := ⟨("_law_sequence", none), "_law_sequence", "_law_sequence", defArgs st__law_sequence, defBody st__law_sequence, defScope st__law_sequence, [], []⟩
def D_need_mapping : He.DefD := ⟨("need_mapping", none), "need_mapping", "need_mapping", defArgs st_need_mapping, defBody st_need_mapping, defScope st_need_mapping, [], []⟩
def D_run_fault : He.DefD := ⟨("run_fault", none), "run_fault", "run_fault", defArgs st_run_fault, defBody st_run_fault, defScope st_run_fault, [], []⟩
def D_best_with_sequence : He.DefD := ⟨("best_with_sequence", none), "best_with_sequence", "best_with_sequence", defArgs st_best_with_sequence, defBody st_best_with_sequence, defScope st_best_with_sequence, [], []⟩
def D__law_plan : He.DefD := ⟨("_law_plan", none), "_law_plan", "_law_plan", defArgs st__law_plan, defBody st__law_plan, defScope st__law_plan, [], []⟩
def D_then : He.DefD := ⟨("then", none), "then", "then", defArgs st_then, defBody st_then, defScope st_then, [], []⟩
def D_need_run : He.DefD := ⟨("need_run", none), "need_run", "need_run", defArgs st_need_run, defBody st_need_run, defScope st_need_run, [], []⟩
def D_best_of : He.DefD := ⟨("best_of", none), "best_of", "best_of", defArgs st_best_of, defBody st_best_of, defScope st_best_of, [], []⟩
def D_need_searched : He.DefD := ⟨("need_searched", none), "need_searched", "need_searched", defArgs st_need_searched, defBody st_need_searched, defScope st_need_searched, [], []⟩
def D_need_twice : He.DefD := ⟨("need_twice", none), "need_twice", "need_twice", defArgs st_need_twice, defBody st_need_twice, defScope st_need_twice, [], []⟩
def D_need_both : He.DefD := ⟨("need_both", none), "need_both", "need_both", defArgs st_need_both, defBody st_need_both, defScope st_need_both, [], []⟩
def D_fewest_of : He.DefD := ⟨("fewest_of", none), "fewest_of", "fewest_of", defArgs st_fewest_of, defBody st_fewest_of, defScope st_fewest_of, [], []⟩
def D_serves : He.DefD := ⟨("serves", none), "serves", "serves", defArgs st_serves, defBody st_serves, defScope st_serves, [], []⟩
def D_serving_sequence : He.DefD := ⟨("serving_sequence", none), "serving_sequence", "serving_sequence", defArgs st_serving_sequence, defBody st_serving_sequence, defScope st_serving_sequence, [], []⟩
def D_barring_sets : He.DefD := ⟨("barring_sets", none), "barring_sets", "barring_sets", defArgs st_barring_sets, defBody st_barring_sets, defScope st_barring_sets, [], []⟩
def D_shows_serving : He.DefD := ⟨("shows_serving", none), "shows_serving", "shows_serving", defArgs st_shows_serving, defBody st_shows_serving, defScope st_shows_serving, [], []⟩
def D_shows_barring : He.DefD := ⟨("shows_barring", none), "shows_barring", "shows_barring", defArgs st_shows_barring, defBody st_shows_barring, defScope st_shows_barring, [], []⟩
def D_best_twice : He.DefD := ⟨("best_twice", none), "best_twice", "best_twice", defArgs st_best_twice, defBody st_best_twice, defScope st_best_twice, [], []⟩
def D_run_mapping : He.DefD := ⟨("run_mapping", none), "run_mapping", "run_mapping", defArgs st_run_mapping, defBody st_run_mapping, defScope st_run_mapping, [], []⟩
def D_fewest_stages : He.DefD := ⟨("fewest_stages", none), "fewest_stages", "fewest_stages", defArgs st_fewest_stages, defBody st_fewest_stages, defScope st_fewest_stages, [], []⟩
def D__law_barred_right : He.DefD := ⟨("_law_barred_right", none), "_law_barred_right", "_law_barred_right", defArgs st__law_barred_right, defBody st__law_barred_right, defScope st__law_barred_right, [], []⟩
def D__law_right : He.DefD := ⟨("_law_right", none), "_law_right", "_law_right", defArgs st__law_right, defBody st__law_right, defScope st__law_right, [], []⟩
def D_law : He.DefD := ⟨("law", none), "law", "law", defArgs st_law, defBody st_law, defScope st_law, [], []⟩
def fn : List He.DefD := [D_is_integer, D_need_few, D_parity, D_bits_of, D_mask_of, D_reduced, D_put_together, D_need_like, D_identity, D_is_moving, D_changed_of, D_independent_count, D_sequence_to, D_rings_of, D__law_source, D__law_draw, D__law_odd, D__law_width, D__law_unlike, D_need_bits, D_is_place, D_are_bits, D_moved, D_made_by, D_is_independent, D_once_of, D_best_of_move, D__law_some_stage, D__law_made, D__law_mixed, D_need_place, D_mapping_fault, D_behind, D_fits, D_sets_before, D_cost_of, D__law_path, D__law_sequence, D_need_mapping, D_run_fault, D_best_with_sequence, D__law_plan, D_then, D_need_run, D_best_of, D_need_searched, D_need_twice, D_need_both, D_fewest_of, D_serves, D_serving_sequence, D_barring_sets, D_shows_serving, D_shows_barring, D_best_twice, D_run_mapping, D_fewest_stages, D__law_barred_right, D__law_right, D_law]
def fa : List He.Fa := [.glo "is_integer", .glo "need_few", .glo "parity", .glo "bits_of", .glo "mask_of", .glo "reduced", .glo "put_together", .glo "need_like", .glo "identity", .glo "is_moving", .glo "changed_of", .glo "independent_count", .glo "sequence_to", .glo "rings_of", .glo "_law_source", .glo "_law_draw", .glo "_law_odd", .glo "_law_width", .glo "_law_unlike", .glo "need_bits", .glo "is_place", .glo "are_bits", .glo "moved", .glo "made_by", .glo "is_independent", .glo "once_of", .glo "best_of_move", .glo "_law_some_stage", .glo "_law_made", .glo "_law_mixed", .glo "need_place", .glo "mapping_fault", .glo "behind", .glo "fits", .glo "sets_before", .glo "cost_of", .glo "_law_path", .glo "_law_sequence", .glo "need_mapping", .glo "run_fault", .glo "best_with_sequence", .glo "_law_plan", .glo "then", .glo "need_run", .glo "best_of", .glo "need_searched", .glo "need_twice", .glo "need_both", .glo "fewest_of", .glo "serves", .glo "serving_sequence", .glo "barring_sets", .glo "shows_serving", .glo "shows_barring", .glo "best_twice", .glo "run_mapping", .glo "fewest_stages", .glo "_law_barred_right", .glo "_law_right", .glo "law", .int "MOST_BITS" 60, .int "MOST_STAGES" 400, .int "MOST_SEARCHED" 7, .int "MOST_SETS" 128, .glo "InvalidBits", .exc "InvalidBits", .glo "InvalidPlace", .exc "InvalidPlace", .glo "UnlikeBits", .exc "UnlikeBits"] ++ bfFacts
abbrev R : PySem.W.OpenRow := PySem.W.OpenLaw.row PySem.Challenge.rw_bitstages_k92_whole_no_fewer_stages
abbrev hk : PySem.W.Hook := DN.hookS 4 fa fn
def ob (s : PySem.W.SharedT) : He.AlD × Bool := DN.obsS 4 fa fn (HandSHeadRun.getT s)
theorem ob_eq (s : PySem.W.SharedT) : ob s = hk.obs s.abs := DN.obsS_eq (HandSHeadRun.getT_eq s)
def loose : List PySem.Str := (["StageError", "InvalidBits", "InvalidPlace", "UnlikeBits", "InvalidMapping", "InvalidRun", "TooLarge", "MOST_BITS", "is_integer", "need_bits", "need_few", "is_place", "need_place", "are_bits", "parity", "bits_of", "mask_of", "reduced", "put_together", "mapping_fault", "need_mapping", "need_like", "moved", "identity", "behind", "then", "is_moving", "changed_of", "independent_count", "MOST_STAGES"] : List PySem.Str) ++ (["fits", "run_fault", "need_run", "made_by", "need_both", "run_mapping", "MOST_SEARCHED", "MOST_SETS", "is_independent", "once_of", "sets_before", "sequence_to", "cost_of", "best_with_sequence", "rings_of", "best_of_move", "best_of", "need_searched", "need_twice", "fewest_of", "fewest_stages", "serves", "serving_sequence", "barring_sets", "shows_serving", "shows_barring", "best_twice", "_law_source", "_law_draw", "_law_odd"] : List PySem.Str) ++ (["_law_some_stage", "_law_path", "_law_made", "_law_mixed", "_law_sequence", "_law_plan", "_law_width", "_law_unlike", "_law_barred_right", "_law_right"] : List PySem.Str)
theorem run (w : World) : HandSHeadRun.RunEq R (PySem.W.view R.prog [77]) hk ob 8000 loose w := by
  intro os
  kernel_rfl
end K92
set_option maxHeartbeats 2000000
namespace DN
open PySem PySem.Spec PyProof.Rows L2
open Evl (Ex)
/-- data -/
inductive D where
  | non | bl (b : Bool) | int (i : Int) | str (x : Str) | ref (a : Addr) | ty (n : String)
  | lst (ds : List D) | tup (ds : List D) | dct (kvs : List (Key × D)) | ins (C : Str) (fs : List (Str × D))
/-- a list that is read: tracked, frozen, or a plain one of the module's -/
def SqX (K : PySem.W.Frag) (H : Hp) (a : Addr) (xs : List V) : Prop :=
  Rd H a (.lst xs) ∨ ∃ (its : List Value) (n : Nat), K.lookup a = some { cls := .type "list", data := .seq its.toArray n } ∧ its.length ≤ sizeLine ∧ Vals xs its
theorem SqX.of {K : PySem.W.Frag} {H : Hp} {a : Addr} {xs : List V} (h : H a = some (.lst xs)) : SqX K H a xs := .inl (.inl h)
theorem SqX.mono {K : PySem.W.Frag} {H H' : Hp} {a : Addr} {xs : List V} (e : Ex H H') (h : SqX K H a xs) : SqX K H' a xs := h.imp (Evl.ex_rd e) id
theorem SqX.sql {K : PySem.W.Frag} {H : Hp} {a : Addr} {xs : List V} (h : SqX K H a xs) : SqL K H a xs :=
  h.imp id fun ⟨its, n, a, b, c⟩ => ⟨_, its.toArray, n, a, rfl, rfl, rfl, by simpa using b, by simpa using c⟩
theorem SqX.get {X : Cx} {pins : List (Addr × Obj)} {σ : L2.St} {H : Hp} {s : Shared} {a : Addr} {xs : List V} (I : L2.Inv X pins σ H s) (h : SqX X.K H a xs) :
    ∃ (its : List Value) (n : Nat), Vals xs its ∧ s.heap.get? a = some { cls := .type "list", data := .seq its.toArray n } ∧ xs.length ≤ sizeLine := by
  rcases h with h | ⟨its, n, a, b, c⟩
  · obtain ⟨z, its, n, r, e⟩ := h.ok I.hok
    exact ⟨its, n, r, e, z⟩
  · exact ⟨its, n, c, I.kIn _ _ a, by rw [c.length]; exact b⟩
mutual
/-- v stands for d over H -/
inductive Rep (K : W.Frag) (H : Hp) : D → V → Prop where
  | non : Rep K H .non .non
  | bl {b} : Rep K H (.bl b) (.bl b)
  | int {i} : Rep K H (.int i) (.int i)
  | str {x} : Rep K H (.str x) (.str x)
  | ref {a} : Rep K H (.ref a) (.ref a)
  | ty {n} : Rep K H (.ty n) (.ty n)
  | lst {a ds vs} : SqX K H a vs → Reps K H ds vs → Rep K H (.lst ds) (.ref a)
  | tup {a ds vs} : SqT K H a vs → Reps K H ds vs → Rep K H (.tup ds) (.ref a)
  | dct {a kvs kws} : Rd H a (.dK kws) → RepK K H kvs kws → Rep K H (.dct kvs) (.ref a)
  | ins {a C dx fs fws} : H a = some (.ins (He.ga K C) dx fws) → RepF K H fs fws → Rep K H (.ins C fs) (.ref a)
inductive Reps (K : W.Frag) (H : Hp) : List D → List V → Prop where
  | nil : Reps K H [] []
  | cons {d v ds vs} : Rep K H d v → Reps K H ds vs → Reps K H (d :: ds) (v :: vs)
inductive RepK (K : W.Frag) (H : Hp) : List (Key × D) → List (Key × V) → Prop where
  | nil : RepK K H [] []
  | cons {k d v ds vs} : Rep K H d v → RepK K H ds vs → RepK K H ((k, d) :: ds) ((k, v) :: vs)
inductive RepF (K : W.Frag) (H : Hp) : List (Str × D) → List (Str × V) → Prop where
  | nil : RepF K H [] []
  | cons {k d v ds vs} : Rep K H d v → RepF K H ds vs → RepF K H ((k, d) :: ds) ((k, v) :: vs)
end
section
variable {K : W.Frag} {H H' : Hp}
mutual
theorem Rep.mono (e : Ex H H') : ∀ {d v}, Rep K H d v → Rep K H' d v
  | _, _, .non => .non
  | _, _, .bl => .bl
  | _, _, .int => .int
  | _, _, .str => .str
  | _, _, .ref => .ref
  | _, _, .ty => .ty
  | _, _, .lst h r => .lst (SqX.mono e h) (Reps.mono e r)
  | _, _, .tup h r => .tup (Evl.ex_t e h) (Reps.mono e r)
  | _, _, .dct h r => .dct (Evl.ex_rd e h) (RepK.mono e r)
  | _, _, .ins h r => .ins (e _ _ h) (RepF.mono e r)
theorem Reps.mono (e : Ex H H') : ∀ {d v}, Reps K H d v → Reps K H' d v
  | _, _, .nil => .nil
  | _, _, .cons h r => .cons (Rep.mono e h) (Reps.mono e r)
theorem RepK.mono (e : Ex H H') : ∀ {d v}, RepK K H d v → RepK K H' d v
  | _, _, .nil => .nil
  | _, _, .cons h r => .cons (Rep.mono e h) (RepK.mono e r)
theorem RepF.mono (e : Ex H H') : ∀ {d v}, RepF K H d v → RepF K H' d v
  | _, _, .nil => .nil
  | _, _, .cons h r => .cons (Rep.mono e h) (RepF.mono e r)
end
theorem Reps.length : ∀ {ds : List D} {vs : List V}, Reps K H ds vs → vs.length = ds.length
  | _, _, .nil => rfl
  | _, _, .cons _ r => congrArg (· + 1) (Reps.length r)
theorem Reps.get : ∀ {ds : List D} {vs : List V} {i : Nat} {d : D}, Reps K H ds vs → ds[i]? = some d → ∃ v, vs[i]? = some v ∧ Rep K H d v
  | _, _, _, _, .nil, e => by simp at e
  | _, _, 0, _, .cons r _, e => by simp at e; subst e; exact ⟨_, rfl, r⟩
  | _, _, i + 1, _, .cons _ t, e => by simpa using Reps.get (i := i) t (by simpa using e)
theorem Reps.getV : ∀ {ds : List D} {vs : List V} {i : Nat} {v : V}, Reps K H ds vs → vs[i]? = some v → ∃ d, ds[i]? = some d ∧ Rep K H d v
  | _, _, _, _, .nil, e => by simp at e
  | _, _, 0, _, .cons r _, e => by simp at e; subst e; exact ⟨_, rfl, r⟩
  | _, _, i + 1, _, .cons _ t, e => by simpa using Reps.getV (i := i) t (by simpa using e)
theorem Reps.append : ∀ {ds es : List D} {vs us : List V}, Reps K H ds vs → Reps K H es us → Reps K H (ds ++ es) (vs ++ us)
  | _, _, _, _, .nil, s => s
  | _, _, _, _, .cons r t, s => .cons r (Reps.append t s)
theorem Reps.take : ∀ {ds : List D} {vs : List V} (n : Nat), Reps K H ds vs → Reps K H (ds.take n) (vs.take n)
  | _, _, 0, _ => .nil
  | _, _, _ + 1, .nil => .nil
  | _, _, n + 1, .cons r t => .cons r (Reps.take n t)
theorem Reps.drop : ∀ {ds : List D} {vs : List V} (n : Nat), Reps K H ds vs → Reps K H (ds.drop n) (vs.drop n)
  | _, _, 0, r => r
  | _, _, _ + 1, .nil => .nil
  | _, _, n + 1, .cons _ t => Reps.drop n t
theorem Reps.set {d : D} {v : V} (r : Rep K H d v) : ∀ {ds : List D} {vs : List V} (i : Nat), Reps K H ds vs → Reps K H (ds.set i d) (vs.set i v)
  | _, _, _, .nil => .nil
  | _, _, 0, .cons _ t => .cons r t
  | _, _, i + 1, .cons q t => .cons q (Reps.set r i t)
theorem Reps.reverse : ∀ {ds : List D} {vs : List V}, Reps K H ds vs → Reps K H ds.reverse vs.reverse
  | _, _, .nil => .nil
  | _, _, .cons r t => by
    rw [List.reverse_cons, List.reverse_cons]
    exact Reps.append (Reps.reverse t) (.cons r .nil)
theorem Reps.ints (ns : List Int) : Reps K H (ns.map D.int) (ns.map V.int) := by
  induction ns with
  | nil => exact .nil
  | cons n r ih => exact .cons .int ih
theorem Reps.ints_inv : ∀ {ns : List Int} {vs : List V}, Reps K H (ns.map D.int) vs → vs = ns.map V.int
  | [], _, h => by cases h; rfl
  | n :: r, _, h => by
    cases h with
    | cons a b =>
      cases a
      rw [Reps.ints_inv b]
      rfl
end
/-- what stands at an owned address -/
inductive RepO (K : W.Frag) (G : Hp) : D → HO → Prop where
  | lst {ds vs} : Reps K G ds vs → RepO K G (.lst ds) (.lst vs)
  | dct {kvs kws} : RepK K G kvs kws → RepO K G (.dct kvs) (.dK kws)
  | ins {C dx fs fws} : RepF K G fs fws → RepO K G (.ins C fs) (.ins (He.ga K C) dx fws)
  | tup {ds vs} : Reps K G ds vs → RepO K G (.tup ds) (.tup vs)
/-- the root over H, the items over G -/
inductive Top (K : W.Frag) (G H : Hp) : D → V → Prop where
  | non : Top K G H .non .non
  | bl {b} : Top K G H (.bl b) (.bl b)
  | int {i} : Top K G H (.int i) (.int i)
  | str {x} : Top K G H (.str x) (.str x)
  | ref {a} : Top K G H (.ref a) (.ref a)
  | ty {n} : Top K G H (.ty n) (.ty n)
  | lst {a ds vs} : SqX K H a vs → Reps K G ds vs → Top K G H (.lst ds) (.ref a)
  | tup {a ds vs} : SqT K H a vs → Reps K G ds vs → Top K G H (.tup ds) (.ref a)
  | dct {a kvs kws} : Rd H a (.dK kws) → RepK K G kvs kws → Top K G H (.dct kvs) (.ref a)
  | ins {a C dx fs fws} : H a = some (.ins (He.ga K C) dx fws) → RepF K G fs fws → Top K G H (.ins C fs) (.ref a)
section
variable {K : W.Frag} {G G' H H' : Hp} {d : D} {v : V} {o : HO}
theorem RepO.mono (e : Ex G G') (h : RepO K G d o) : RepO K G' d o := by
  cases h with
  | lst r => exact .lst (r.mono e)
  | dct r => exact .dct (r.mono e)
  | ins r => exact .ins (r.mono e)
  | tup r => exact .tup (r.mono e)
theorem Top.mono (e : Ex H H') (h : Top K G H d v) : Top K G H' d v := by
  cases h with
  | non => exact .non
  | bl => exact .bl
  | int => exact .int
  | str => exact .str
  | ref => exact .ref
  | ty => exact .ty
  | lst a r => exact .lst (SqX.mono e a) r
  | tup a r => exact .tup (Evl.ex_t e a) r
  | dct a r => exact .dct (Evl.ex_rd e a) r
  | ins a r => exact .ins (e _ _ a) r
theorem Top.rep (e : Ex G H) (h : Top K G H d v) : Rep K H d v := by
  cases h with
  | non => exact .non
  | bl => exact .bl
  | int => exact .int
  | str => exact .str
  | ref => exact .ref
  | ty => exact .ty
  | lst a r => exact .lst a (r.mono e)
  | tup a r => exact .tup a (r.mono e)
  | dct a r => exact .dct a (r.mono e)
  | ins a r => exact .ins a (r.mono e)
theorem Rep.top (e : Ex G H) (h : Rep K G d v) : Top K G H d v := by
  cases h with
  | non => exact .non
  | bl => exact .bl
  | int => exact .int
  | str => exact .str
  | ref => exact .ref
  | ty => exact .ty
  | lst a r => exact .lst (SqX.mono e a) r
  | tup a r => exact .tup (Evl.ex_t e a) r
  | dct a r => exact .dct (Evl.ex_rd e a) r
  | ins a r => exact .ins (e _ _ a) r
theorem RepO.top {l : Addr} (h : H l = some o) (r : RepO K G d o) : Top K G H d (.ref l) := by
  cases r with
  | lst r => exact .lst (.of h) r
  | dct r => exact .dct (.inl h) r
  | ins r => exact .ins h r
  | tup r => exact .tup (.of h) r
theorem RepO.rep {l : Addr} (h : G l = some o) (r : RepO K G d o) : Rep K G d (.ref l) := by
  cases r with
  | lst r => exact .lst (.of h) r
  | dct r => exact .dct (.inl h) r
  | ins r => exact .ins h r
  | tup r => exact .tup (.of h) r
end
/-- a slot: nothing, a frozen value, an owned object, an object that is only read here -/
inductive Sl where
  | un | fz (d : D) | own (d : D) | ln (d : D)
abbrev Env := List Sl
/-- what an expression gives: a frozen value, a new object of one's own, what stands in a slot, a tuple of such -/
inductive R where
  | fz (d : D) | own (d : D) | bor (i : Nat) | tp (rs : List R)
/-- what is lent: by slot, address and content -/
abbrev Lent := Nat → Addr → HO → Prop
def LB (L : Lent) (B : Hp) : Prop := ∀ i l o, L i l o → B l = some o
def NL (L : Lent) (l : Addr) : Prop := ∀ i o, ¬ L i l o
theorem LB.ex {L : Lent} {B B' : Hp} (h : LB L B) (e : Ex B B') : LB L B' := fun i l o q => e l o (h i l o q)
theorem LB.nl {L : Lent} {B : Hp} (h : LB L B) {l : Addr} (b : B l = none) : NL L l := fun i o q => by
  rw [h i l o q] at b
  cases b
theorem LB.of_upd {L : Lent} {B : Hp} {l : Addr} {o : HO} (h : LB L (upd B l o)) (n : NL L l) : LB L B := fun i m u q => by
  have hm : m ≠ l := fun z => by subst z; exact n i u q
  have := h i m u q
  rw [upd_ne hm] at this
  exact this
structure OkS (K : W.Frag) (L : Lent) (G B H : Hp) (σ : L2.St) (ρ : Env) : Prop where
  gb : Ex G B
  lb : LB L B
  bh : Ex B H
  len : σ.length = ρ.length
  fz : ∀ (i : Nat) d, ρ[i]? = some (.fz d) → ∃ v, σ[i]? = some (some v) ∧ Rep K G d v
  ow : ∀ (i : Nat) d, ρ[i]? = some (.own d) → ∃ l o, σ[i]? = some (some (.ref l)) ∧ B l = none ∧ H l = some o ∧ RepO K G d o
  ln : ∀ (i : Nat) d, ρ[i]? = some (.ln d) → ∃ v, σ[i]? = some (some v) ∧ (Rep K G d v ∨ ∃ l o, v = .ref l ∧ L i l o ∧ RepO K G d o)
  dis : ∀ (i j : Nat) d d' l, ρ[i]? = some (.own d) → ρ[j]? = some (.own d') → σ[i]? = some (some (.ref l)) → σ[j]? = some (some (.ref l)) → i = j
inductive OkVs (K : W.Frag) (L : Lent) (G H : Hp) (σ : L2.St) (ρ : Env) : Hp → List R → List V → Prop where
  | nil {B} : OkS K L G B H σ ρ → OkVs K L G H σ ρ B [] []
  | fz {B d v rs vs} : Rep K G d v → OkVs K L G H σ ρ B rs vs → OkVs K L G H σ ρ B (.fz d :: rs) (v :: vs)
  | own {B l o d rs vs} : G l = none → NL L l → B l = none → RepO K G d o → OkVs K L G H σ ρ (upd B l o) rs vs → OkVs K L G H σ ρ B (.own d :: rs) (.ref l :: vs)
  | bor {B i v rs vs} : σ[i]? = some (some v) → OkVs K L G H σ ρ B rs vs → OkVs K L G H σ ρ B (.bor i :: rs) (v :: vs)
  | tp {B p qs ws rs vs} : G p = none → NL L p → B p = none → qs.length = ws.length → OkVs K L G H σ ρ (upd B p (.tup ws)) (qs ++ rs) (ws ++ vs) → OkVs K L G H σ ρ B (.tp qs :: rs) (.ref p :: vs)
structure Grow (G B G' B' : Hp) : Prop where
  bb : Ex B B'
  fr : ∀ p o, B p = some o → G' p = G p
theorem Grow.refl {G B : Hp} : Grow G B G B := ⟨Ex.refl _, fun _ _ _ => rfl⟩
theorem Grow.trans {G B G1 B1 G2 B2 : Hp} (a : Grow G B G1 B1) (b : Grow G1 B1 G2 B2) : Grow G B G2 B2 :=
  ⟨a.bb.trans b.bb, fun p o h => (b.fr p o (a.bb p o h)).trans (a.fr p o h)⟩
theorem Grow.gg {G B G' B' : Hp} (a : Grow G B G' B') (e : Ex G B) : Ex G G' := fun p o h => by
  rw [a.fr p o (e p o h)]
  exact h
theorem ex_upd {B B' : Hp} (e : Ex B B') {l : Addr} {o : HO} : Ex (upd B l o) (upd B' l o) := fun b u h => by
  by_cases hb : b = l
  · subst hb; rw [upd_same] at h ⊢; exact h
  · rw [upd_ne hb] at h ⊢; exact e b u h
theorem none_of_ex {B B' : Hp} (e : Ex B B') {l : Addr} (h : B' l = none) : B l = none := Evl.fresh_back e h
theorem ex_of_upd {G B : Hp} {l : Addr} {o : HO} (e : Ex G (upd B l o)) (h : G l = none) : Ex G B := fun b u q => by
  have := e b u q
  rw [upd_ne (ne_of_none q h)] at this
  exact this
theorem upd_comm {B : Hp} {l l' : Addr} {o o' : HO} (h : l ≠ l') : upd (upd B l o) l' o' = upd (upd B l' o') l o := by
  funext b
  unfold upd
  by_cases h1 : b = l'
  · by_cases h2 : b = l
    · exact absurd (h2.symm.trans h1) h
    · simp [h1, h2]; intro e; exact absurd e.symm h
  · simp [h1]
/-- without l -/
def del (H : Hp) (a : Addr) : Hp := fun b => if b = a then none else H b
theorem del_same {H : Hp} {a : Addr} : del H a a = none := if_pos rfl
theorem del_ne {H : Hp} {a b : Addr} (h : b ≠ a) : del H a b = H b := if_neg h
theorem upd_del {H : Hp} {a : Addr} {o : HO} (h : H a = some o) : upd (del H a) a o = H := by
  funext b
  by_cases hb : b = a
  · subst hb; rw [upd_same, h]
  · rw [upd_ne hb, del_ne hb]
theorem ex_del {B B2 : Hp} {l : Addr} {o : HO} (e : Ex (upd B l o) B2) (h : B l = none) : Ex B (del B2 l) := fun b u q => by
  have hb := ne_of_none q h
  rw [del_ne hb]
  exact e b u (by rw [upd_ne hb]; exact q)
section
variable {K : W.Frag} {L : Lent} {G G' B B' B2 H H' : Hp} {σ σ' : L2.St} {ρ ρ' : Env} {rs ss : List R} {vs us : List V} {r : R} {v : V} {d : D}
theorem OkS.gh (s : OkS K L G B H σ ρ) : Ex G H := s.gb.trans s.bh
theorem OkS.anti (s : OkS K L G B2 H σ ρ) (e : Ex B B2) (g : Ex G B) (l : LB L B) : OkS K L G B H σ ρ :=
  ⟨g, l, e.trans s.bh, s.len, s.fz, fun i d h => let ⟨a, o, h1, h2, h3⟩ := s.ow i d h; ⟨a, o, h1, none_of_ex e h2, h3⟩, s.ln, s.dis⟩
theorem OkS.growG (s : OkS K L G B H σ ρ) (e : Ex G G') (g : Ex G' B) : OkS K L G' B H σ ρ :=
  ⟨g, s.lb, s.bh, s.len, fun i d h => let ⟨v, h1, h2⟩ := s.fz i d h; ⟨v, h1, h2.mono e⟩, fun i d h => let ⟨a, o, h1, h2, h3, h4⟩ := s.ow i d h; ⟨a, o, h1, h2, h3, h4.mono e⟩,
    fun i d h => let ⟨v, h1, h2⟩ := s.ln i d h; ⟨v, h1, h2.imp (fun x => x.mono e) fun ⟨l, o, a, b, c⟩ => ⟨l, o, a, b, c.mono e⟩⟩, s.dis⟩
theorem OkVs.base (h : OkVs K L G H σ ρ B rs vs) : Ex G B ∧ LB L B ∧ Ex B H := by
  induction h with
  | nil s => exact ⟨s.gb, s.lb, s.bh⟩
  | fz _ _ ih => exact ih
  | bor _ _ ih => exact ih
  | own g l b _ _ ih => exact ⟨ex_of_upd ih.1 g, ih.2.1.of_upd l, fun p o q => ih.2.2 p o (by rw [upd_ne (ne_of_none q b)]; exact q)⟩
  | tp g l b _ _ ih => exact ⟨ex_of_upd ih.1 g, ih.2.1.of_upd l, fun p o q => ih.2.2 p o (by rw [upd_ne (ne_of_none q b)]; exact q)⟩
theorem OkVs.anti (h : OkVs K L G H σ ρ B2 rs vs) : ∀ {B : Hp}, Ex B B2 → Ex G B → LB L B → OkVs K L G H σ ρ B rs vs := by
  induction h with
  | nil s => intro B e g l; exact .nil (s.anti e g l)
  | fz r _ ih => intro B e g l; exact .fz r (ih e g l)
  | bor r _ ih => intro B e g l; exact .bor r (ih e g l)
  | own g l b r _ ih => intro B e g' l'; exact .own g l (none_of_ex e b) r (ih (ex_upd e) (g'.trans (Ex.new (none_of_ex e b))) (l'.ex (Ex.new (none_of_ex e b))))
  | tp g l b n _ ih => intro B e g' l'; exact .tp g l (none_of_ex e b) n (ih (ex_upd e) (g'.trans (Ex.new (none_of_ex e b))) (l'.ex (Ex.new (none_of_ex e b))))
theorem OkVs.growG (h : OkVs K L G H σ ρ B rs vs) (e : Ex G G') : Ex G' B → OkVs K L G' H σ ρ B rs vs := by
  induction h with
  | nil s => intro g; exact .nil (s.growG e g)
  | fz r _ ih => intro g; exact .fz (r.mono e) (ih g)
  | bor r _ ih => intro g; exact .bor r (ih g)
  | own g0 l b r _ ih => intro g; exact .own (none_of_ex g b) l b (r.mono e) (ih (g.trans (Ex.new b)))
  | tp g0 l b n _ ih => intro g; exact .tp (none_of_ex g b) l b n (ih (g.trans (Ex.new b)))
theorem OkVs.drops (h : OkVs K L G H σ ρ B rs vs) : ∀ n, OkVs K L G H σ ρ B (rs.drop n) (vs.drop n) := by
  induction h with
  | nil s => intro n; simpa using OkVs.nil s
  | fz r h ih => intro n; cases n with
    | zero => exact .fz r h
    | succ n => exact ih n
  | bor r h ih => intro n; cases n with
    | zero => exact .bor r h
    | succ n => exact ih n
  | own g l b r h ih => intro n; cases n with
    | zero => exact .own g l b r h
    | succ n =>
      have x := (OkVs.own g l b r h).base
      exact (ih n).anti (Ex.new b) x.1 x.2.1
  | @tp B p qs ws rs vs g l b m h ih => intro n; cases n with
    | zero => exact .tp g l b m h
    | succ n =>
      have x := (OkVs.tp g l b m h).base
      have y := ih (qs.length + n)
      have e1 : (qs ++ rs).drop (qs.length + n) = rs.drop n := by
        rw [← List.drop_drop, List.drop_left]
      have e2 : (ws ++ vs).drop (qs.length + n) = vs.drop n := by
        rw [m, ← List.drop_drop, List.drop_left]
      rw [e1, e2] at y
      exact y.anti (Ex.new b) x.1 x.2.1
theorem OkVs.state (h : OkVs K L G H σ ρ B rs vs) (e : rs.length = vs.length := by rfl) : OkS K L G B H σ ρ := by
  have y := h.drops rs.length
  rw [List.drop_length, e, List.drop_length] at y
  cases y with
  | nil s => exact s
theorem OkVs.length (h : OkVs K L G H σ ρ B rs vs) : rs.length = vs.length := by
  induction h with
  | nil => rfl
  | fz _ _ ih => simp [ih]
  | bor _ _ ih => simp [ih]
  | own _ _ _ _ _ ih => simp [ih]
  | tp _ _ _ m _ ih => simp only [List.length_append, List.length_cons] at ih ⊢; omega
theorem OkVs.tail (h : OkVs K L G H σ ρ B (r :: rs) (v :: vs)) : OkVs K L G H σ ρ B rs vs := h.drops 1
/-- what is pending is held while something else is done -/
theorem OkVs.hold (h : OkVs K L G H σ ρ B rs vs) : ∃ B2, Ex B B2 ∧ OkS K L G B2 H σ ρ ∧ ∀ {G' B2' H' : Hp} {ρ' : Env} {ss : List R} {us : List V}, Grow G B2 G' B2' → OkVs K L G' H' σ ρ' B2' ss us →
    ∃ B', Grow G B G' B' ∧ OkVs K L G' H' σ ρ' B' (rs ++ ss) (vs ++ us) := by
  induction h with
  | nil s => exact ⟨_, Ex.refl _, s, fun g k => ⟨_, g, k⟩⟩
  | fz r h ih =>
    obtain ⟨B2, e, s, k⟩ := ih
    refine ⟨B2, e, s, fun g q => ?_⟩
    obtain ⟨B', g', q'⟩ := k g q
    exact ⟨B', g', .fz (r.mono (g'.gg h.base.1)) q'⟩
  | bor r h ih =>
    obtain ⟨B2, e, s, k⟩ := ih
    refine ⟨B2, e, s, fun g q => ?_⟩
    obtain ⟨B', g', q'⟩ := k g q
    exact ⟨B', g', .bor r q'⟩
  | @own B l o d rs vs g l0 b r h ih =>
    obtain ⟨B2, e, s, k⟩ := ih
    refine ⟨B2, (Ex.new b).trans e, s, fun {G' B2' H' ρ' ss us} g1 q => ?_⟩
    obtain ⟨B', g', q'⟩ := k g1 q
    have hl : B' l = some o := g'.bb l o upd_same
    refine ⟨del B' l, ⟨ex_del g'.bb b, fun p u hp => g'.fr p u (by rw [upd_ne (ne_of_none hp b)]; exact hp)⟩, ?_⟩
    refine .own ((g'.fr l o upd_same).trans g) l0 del_same (r.mono (g'.gg h.base.1)) ?_
    rw [upd_del hl]
    exact q'
  | @tp B p qs ws rs vs g l0 b m h ih =>
    obtain ⟨B2, e, s, k⟩ := ih
    refine ⟨B2, (Ex.new b).trans e, s, fun {G' B2' H' ρ' ss us} g1 q => ?_⟩
    obtain ⟨B', g', q'⟩ := k g1 q
    have hl : B' p = some (.tup ws) := g'.bb p _ upd_same
    refine ⟨del B' p, ⟨ex_del g'.bb b, fun a u hp => g'.fr a u (by rw [upd_ne (ne_of_none hp b)]; exact hp)⟩, ?_⟩
    refine .tp ((g'.fr p _ upd_same).trans g) l0 del_same m ?_
    rw [upd_del hl]
    rw [List.append_assoc, List.append_assoc] at q'
    exact q'
end
def slD : Sl → Option D
  | .un => none
  | .fz d => some d
  | .own d => some d
  | .ln d => some d
def getD (ρ : Env) (i : Nat) : Option D := ρ[i]?.bind slD
/-- an operand (a tuple at hand is frozen ahead) -/
def useR (ρ : Env) : R → Option D
  | .fz d => some d
  | .own d => some d
  | .bor i => getD ρ i
  | .tp _ => none
section
variable {K : W.Frag} {L : Lent} {G G' B B' B2 H H' : Hp} {σ σ' : L2.St} {ρ ρ' : Env} {rs ss : List R} {vs us : List V} {r : R} {v : V} {d : D} {i : Nat}
theorem OkS.slot (s : OkS K L G B H σ ρ) (h : getD ρ i = some d) (hv : σ[i]? = some (some v)) : Top K G H d v := by
  unfold getD at h
  cases e : ρ[i]? with
  | none => rw [e] at h; cases h
  | some x =>
    rw [e] at h
    cases x with
    | un => cases h
    | fz d' =>
      cases h
      obtain ⟨w, h1, h2⟩ := s.fz i _ e
      rw [hv] at h1; cases h1
      exact h2.top s.gh
    | own d' =>
      cases h
      obtain ⟨l, o, h1, h2, h3, h4⟩ := s.ow i _ e
      rw [hv] at h1; cases h1
      exact h4.top h3
    | ln d' =>
      cases h
      obtain ⟨w, h1, h2⟩ := s.ln i _ e
      rw [hv] at h1; cases h1
      rcases h2 with h2 | ⟨l, o, rfl, h3, h4⟩
      · exact h2.top s.gh
      · exact h4.top (s.bh _ _ (s.lb _ _ _ h3))
theorem OkS.has (s : OkS K L G B H σ ρ) (h : getD ρ i = some d) : ∃ v, σ[i]? = some (some v) := by
  unfold getD at h
  cases e : ρ[i]? with
  | none => rw [e] at h; cases h
  | some x =>
    rw [e] at h
    cases x with
    | un => cases h
    | fz d' => obtain ⟨w, h1, h2⟩ := s.fz i _ e; exact ⟨w, h1⟩
    | own d' => obtain ⟨l, o, h1, h2⟩ := s.ow i _ e; exact ⟨_, h1⟩
    | ln d' => obtain ⟨w, h1, h2⟩ := s.ln i _ e; exact ⟨w, h1⟩
theorem OkVs.use (h : OkVs K L G H σ ρ B (r :: rs) (v :: vs)) (u : useR ρ r = some d) (e : rs.length = vs.length := by rfl) : Top K G H d v := by
  have s := h.state (by simp [e])
  cases h with
  | fz a _ => cases u; exact a.top s.gh
  | own g l b a k => cases u; exact a.top (k.base.2.2 _ _ upd_same)
  | bor a _ => exact s.slot u a
  | tp => cases u
end
def scalD : D → Bool
  | .non | .bl _ | .int _ | .str _ | .ref _ | .ty _ => true
  | _ => false
mutual
def escR (ρ : Env) : R → Option (Env × D)
  | .fz d => some (ρ, d)
  | .own d => some (ρ, d)
  | .bor i => match ρ[i]? with
    | some (.fz d) => some (ρ, d)
    | some (.own d) => some (ρ.set i (.fz d), d)
    | some (.ln d) => if scalD d then some (ρ, d) else none
    | _ => none
  | .tp rs => match escRs ρ rs with
    | some (ρ', ds) => some (ρ', .tup ds)
    | none => none
def escRs (ρ : Env) : List R → Option (Env × List D)
  | [] => some (ρ, [])
  | r :: rs => match escR ρ r with
    | some (ρ1, d) => match escRs ρ1 rs with
      | some (ρ2, ds) => some (ρ2, d :: ds)
      | none => none
    | none => none
end
section
variable {K : W.Frag} {L : Lent} {G G' B B' B2 H H' : Hp} {σ σ' : L2.St} {ρ ρ' : Env} {rs ss : List R} {vs us : List V} {r : R} {v : V} {d : D} {i : Nat} {l : Addr} {o : HO}
theorem scal_top (h : Top K G H d v) (e : scalD d = true) : Rep K G d v := by
  cases h <;> first | exact .non | exact .bl | exact .int | exact .str | exact .ref | exact .ty | exact Bool.noConfusion e
/-- the owned object of a slot is frozen -/
theorem OkS.frz (s : OkS K L G B H σ ρ) (hi : ρ[i]? = some (.own d)) (h1 : σ[i]? = some (some (.ref l))) (h2 : B l = none) (h3 : H l = some o) (h4 : RepO K G d o) : OkS K L (upd G l o) (upd B l o) H σ (ρ.set i (.fz d)) := by
  have hg : G l = none := none_of_ex s.gb h2
  have eg : Ex G (upd G l o) := Ex.new hg
  have hil : i < ρ.length := (List.getElem?_eq_some_iff.mp hi).1
  refine ⟨ex_upd s.gb, s.lb.ex (Ex.new h2), fun b u q => ?_, by rw [List.length_set]; exact s.len, fun j d' q => ?_, fun j d' q => ?_, fun j d' q => ?_, fun j k dj dk a q1 q2 => ?_⟩
  · by_cases hb : b = l
    · subst hb; rw [upd_same] at q; cases q; exact h3
    · rw [upd_ne hb] at q; exact s.bh b u q
  · rw [List.getElem?_set] at q
    by_cases hj : i = j
    · subst hj; rw [if_pos rfl, if_pos hil] at q; cases q
      exact ⟨_, h1, RepO.rep upd_same (h4.mono eg)⟩
    · rw [if_neg hj] at q
      obtain ⟨w, a, b⟩ := s.fz j d' q
      exact ⟨w, a, b.mono eg⟩
  · rw [List.getElem?_set] at q
    by_cases hj : i = j
    · subst hj; rw [if_pos rfl, if_pos hil] at q; cases q
    · rw [if_neg hj] at q
      obtain ⟨m, u, a, b, c, e⟩ := s.ow j d' q
      refine ⟨m, u, a, ?_, c, e.mono eg⟩
      have hm : m ≠ l := fun z => by subst z; exact hj (s.dis i j d d' m hi q h1 a)
      rw [upd_ne hm]; exact b
  · rw [List.getElem?_set] at q
    by_cases hj : i = j
    · subst hj; rw [if_pos rfl, if_pos hil] at q; cases q
    · rw [if_neg hj] at q
      obtain ⟨w, a, b⟩ := s.ln j d' q
      exact ⟨w, a, b.imp (fun x => x.mono eg) fun ⟨m, u, x, y, z⟩ => ⟨m, u, x, y, z.mono eg⟩⟩
  · rw [List.getElem?_set] at q1 q2
    by_cases hj : i = j
    · subst hj; rw [if_pos rfl, if_pos hil] at q1; cases q1
    · by_cases hk : i = k
      · subst hk; rw [if_pos rfl, if_pos hil] at q2; cases q2
      · rw [if_neg hj] at q1; rw [if_neg hk] at q2
        exact s.dis j k dj dk a q1 q2
theorem OkVs.slotOwn (h : OkVs K L G H σ ρ B rs vs) (hi : ρ[i]? = some (.own d)) : ∃ l o, σ[i]? = some (some (.ref l)) ∧ B l = none ∧ H l = some o ∧ RepO K G d o := (h.state h.length).ow i d hi
theorem OkVs.frz (h : OkVs K L G H σ ρ B rs vs) (hi : ρ[i]? = some (.own d)) (h1 : σ[i]? = some (some (.ref l))) (h3 : H l = some o) (h4 : RepO K G d o) : OkVs K L (upd G l o) H σ (ρ.set i (.fz d)) (upd B l o) rs vs := by
  induction h with
  | @nil B s =>
    obtain ⟨l', o', a, b, c, e⟩ := s.ow i d hi
    rw [h1] at a; cases a
    exact .nil (s.frz hi h1 b h3 h4)
  | fz r h ih =>
    obtain ⟨l', o', a, b, c, e⟩ := h.slotOwn hi
    rw [h1] at a; cases a
    exact .fz (r.mono (Ex.new (none_of_ex h.base.1 b))) ih
  | bor r h ih => exact .bor r ih
  | @own B m u e rs vs g l0 b r h ih =>
    obtain ⟨l', o', a, b', c, e'⟩ := h.slotOwn hi
    rw [h1] at a; cases a
    have hm : l ≠ m := fun z => by subst z; rw [upd_same] at b'; cases b'
    rw [upd_ne hm] at b'
    have hg : G l = none := none_of_ex (OkVs.own g l0 b r h).base.1 b'
    refine .own (by rw [upd_ne (Ne.symm hm)]; exact g) l0 (by rw [upd_ne (Ne.symm hm)]; exact b) (r.mono (Ex.new hg)) ?_
    rw [upd_comm hm]
    exact ih
  | @tp B m qs ws rs vs g l0 b n h ih =>
    obtain ⟨l', o', a, b', c, e'⟩ := h.slotOwn hi
    rw [h1] at a; cases a
    have hm : l ≠ m := fun z => by subst z; rw [upd_same] at b'; cases b'
    rw [upd_ne hm] at b'
    refine .tp (by rw [upd_ne (Ne.symm hm)]; exact g) l0 (by rw [upd_ne (Ne.symm hm)]; exact b) n ?_
    rw [upd_comm hm]
    exact ih
theorem OkVs.fzs : ∀ {ds : List D} {ws : List V}, OkVs K L G H σ ρ B (ds.map R.fz ++ rs) (ws ++ vs) → ds.length = ws.length → Reps K G ds ws ∧ OkVs K L G H σ ρ B rs vs
  | [], [], h, _ => ⟨.nil, h⟩
  | d :: ds, w :: ws, h, e => by
    cases h with
    | fz r k =>
      obtain ⟨a, b⟩ := OkVs.fzs (ds := ds) (ws := ws) k (by simpa using e)
      exact ⟨.cons r a, b⟩
theorem OkVs.ofReps : ∀ {ds : List D} {ws : List V}, Reps K G ds ws → OkVs K L G H σ ρ B rs vs → OkVs K L G H σ ρ B (ds.map R.fz ++ rs) (ws ++ vs)
  | _, _, .nil, h => h
  | _, _, .cons a b, h => .fz a (OkVs.ofReps b h)
mutual
theorem OkVs.esc : ∀ {r : R} {G B : Hp} {ρ ρ' : Env} {d : D} {rs : List R} {vs : List V} {v : V}, OkVs K L G H σ ρ B (r :: rs) (v :: vs) → escR ρ r = some (ρ', d) →
    ∃ G' B', Grow G B G' B' ∧ OkVs K L G' H σ ρ' B' (.fz d :: rs) (v :: vs)
  | .fz d0, G, B, ρ, ρ', d, rs, vs, v, h, e => by
    simp only [escR, Option.some.injEq, Prod.mk.injEq] at e
    obtain ⟨rfl, rfl⟩ := e
    exact ⟨G, B, .refl, h⟩
  | .own d0, G, B, ρ, ρ', d, rs, vs, v, h, e => by
    simp only [escR, Option.some.injEq, Prod.mk.injEq] at e
    obtain ⟨rfl, rfl⟩ := e
    cases h with
    | @own _ l o _ _ _ g l0 b r k =>
      refine ⟨upd G l o, upd B l o, ⟨Ex.new b, fun p u hp => by rw [upd_ne (ne_of_none hp b)]⟩, ?_⟩
      exact .fz (RepO.rep upd_same (r.mono (Ex.new g))) (k.growG (Ex.new g) (ex_upd (ex_of_upd k.base.1 g)))
  | .bor i, G, B, ρ, ρ', d, rs, vs, v, h, e => by
    cases h with
    | bor hv k =>
    unfold escR at e
    cases hi : ρ[i]? with
    | none => rw [hi] at e; cases e
    | some x =>
      rw [hi] at e
      cases x with
      | un => cases e
      | fz d' =>
        cases e
        obtain ⟨w, a, b⟩ := (k.state k.length).fz i _ hi
        rw [hv] at a; cases a
        exact ⟨G, B, .refl, .fz b k⟩
      | own d' =>
        cases e
        obtain ⟨l, o, a, b, c, q⟩ := k.slotOwn hi
        rw [hv] at a; cases a
        have hg := none_of_ex k.base.1 b
        exact ⟨upd G l o, upd B l o, ⟨Ex.new b, fun p u hp => by rw [upd_ne (ne_of_none hp b)]⟩, .fz (RepO.rep upd_same (q.mono (Ex.new hg))) (k.frz hi hv c q)⟩
      | ln d' =>
        simp only at e
        by_cases hs : scalD d' = true
        · rw [if_pos hs] at e
          cases e
          have t := (k.state k.length).slot (i := i) (d := d) (v := v) (by unfold getD; rw [hi]; rfl) hv
          exact ⟨G, B, .refl, .fz (scal_top t hs) k⟩
        · rw [if_neg hs] at e; cases e
  | .tp qs, G, B, ρ, ρ', d, rs, vs, v, h, e => by
    cases h with
    | @tp _ p _ ws _ _ g l0 b n k =>
    unfold escR at e
    cases he : escRs ρ qs with
    | none => rw [he] at e; cases e
    | some x =>
      obtain ⟨ρ1, ds⟩ := x
      rw [he] at e
      cases e
      obtain ⟨G', B', gr, k', m⟩ := OkVs.escs (qs := qs) k n he
      obtain ⟨rp, k2⟩ := OkVs.fzs k' m
      have hp : B' p = some (.tup ws) := gr.bb p _ upd_same
      have hg : G' p = none := (gr.fr p _ upd_same).trans g
      have eg : Ex G' (upd G' p (.tup ws)) := Ex.new hg
      refine ⟨upd G' p (.tup ws), B', ⟨(Ex.new b).trans gr.bb, fun a u ha => ?_⟩, ?_⟩
      · have hne := ne_of_none ha b
        rw [upd_ne hne]
        exact gr.fr a u (by rw [upd_ne hne]; exact ha)
      · refine .fz (.tup (.of upd_same) (rp.mono eg)) (k2.growG eg fun a u ha => ?_)
        by_cases hne : a = p
        · subst hne; rw [upd_same] at ha; cases ha; exact hp
        · rw [upd_ne hne] at ha; exact k2.base.1 a u ha
theorem OkVs.escs : ∀ {qs : List R} {G B : Hp} {ρ ρ' : Env} {ds : List D} {rs : List R} {ws vs : List V}, OkVs K L G H σ ρ B (qs ++ rs) (ws ++ vs) → qs.length = ws.length → escRs ρ qs = some (ρ', ds) →
    ∃ G' B', Grow G B G' B' ∧ OkVs K L G' H σ ρ' B' (ds.map R.fz ++ rs) (ws ++ vs) ∧ ds.length = ws.length
  | [], G, B, ρ, ρ', ds, rs, ws, vs, h, n, e => by
    cases ws with
    | nil =>
      simp only [escRs, Option.some.injEq, Prod.mk.injEq] at e
      obtain ⟨rfl, rfl⟩ := e
      exact ⟨G, B, .refl, h, rfl⟩
    | cons => simp at n
  | q :: qs, G, B, ρ, ρ', ds, rs, ws, vs, h, n, e => by
    cases ws with
    | nil => simp at n
    | cons w ws =>
      unfold escRs at e
      cases h1 : escR ρ q with
      | none => rw [h1] at e; cases e
      | some x =>
        obtain ⟨ρ1, d⟩ := x
        rw [h1] at e
        simp only at e
        cases h2 : escRs ρ1 qs with
        | none => rw [h2] at e; cases e
        | some y =>
          obtain ⟨ρ2, ds'⟩ := y
          rw [h2] at e
          cases e
          obtain ⟨G1, B1, g1, k1⟩ := OkVs.esc (r := q) (v := w) (rs := qs ++ rs) (vs := ws ++ vs) h h1
          cases k1 with
          | fz rp k1 =>
            obtain ⟨G2, B2, g2, k2, m⟩ := OkVs.escs (qs := qs) (ws := ws) k1 (by simpa using n) h2
            exact ⟨G2, B2, g1.trans g2, .fz (rp.mono (g2.gg k1.base.1)) k2, by simp [m]⟩
end
end
end DN
set_option maxHeartbeats 2000000
namespace DN
open PySem PySem.Spec PyProof.Rows L2
open Evl (Ex)
/-- an error on its way: its class, its fields -/
structure Er where
  cls : Str
  fs : List (Str × D)
inductive O (α : Type) where
  | ok (ρ : Env) (a : α) | er (ρ : Env) (e : Er) | un
def O.bind {α β : Type} (o : O α) (f : Env → α → O β) : O β := match o with
  | .ok ρ a => f ρ a
  | .er ρ e => .er ρ e
  | .un => .un
theorem nr {α : Sort u} {a b : α} (h : a = b) : a = b := by
  cases h
  exact Eq.refl _
@[simp] theorem O.bind_ok {α β : Type} {ρ : Env} {a : α} {f : Env → α → O β} : (O.ok ρ a).bind f = f ρ a := nr rfl
@[simp] theorem O.bind_er {α β : Type} {ρ : Env} {e : Er} {f : Env → α → O β} : (O.er ρ e : O α).bind f = .er ρ e := nr rfl
@[simp] theorem O.bind_un {α β : Type} {f : Env → α → O β} : (O.un : O α).bind f = .un := nr rfl
def OkEr (K : PySem.W.Frag) (G : Hp) (e : Er) (c : Value) (d : Option Addr) : Prop :=
  c = .ref (He.ga K e.cls) ∧ ((e.fs = [] ∧ d = none) ∨ ∃ dx fws, d = some dx ∧ G dx = some (.xd fws) ∧ RepF K G e.fs fws)
def Post {α : Type} (K : PySem.W.Frag) (W : WX) (L : Lent) (G B : Hp) (σ : L2.St) (o : O α) (S : Env → α → Hp → Hp → Hp → Prop) : Prop := match o with
  | .ok ρ' a => ∀ G' B' H', Grow G B G' B' → S ρ' a G' B' H'
  | .er ρ' e => ∀ G' B' H' c d, Grow G B G' B' → OkS K L G' B' H' σ ρ' → OkEr K G' e c d → W c d σ H'
  | .un => False
section
variable {α β : Type} {K : PySem.W.Frag} {W : WX} {L : Lent} {G G' B B' : Hp} {σ : L2.St} {o : O α} {f : Env → α → O β} {S S' : Env → α → Hp → Hp → Hp → Prop} {T : Env → β → Hp → Hp → Hp → Prop}
theorem Post.grow (h : Post K W L G B σ o S) (g : Grow G B G' B') : Post K W L G' B' σ o S := by
  cases o with
  | ok ρ a => exact fun G2 B2 H2 g2 => h G2 B2 H2 (g.trans g2)
  | er ρ e => exact fun G2 B2 H2 c d g2 => h G2 B2 H2 c d (g.trans g2)
  | un => exact h
theorem Post.bind (h : Post K W L G B σ (o.bind f) T) : Post K W L G B σ o fun ρ' a G' B' H' => Post K W L G' B' σ (f ρ' a) T := by
  cases o with
  | ok ρ a => exact fun G2 B2 H2 g => Post.grow (show Post K W L G B σ (f ρ a) T from h) g
  | er ρ e => exact h
  | un => exact h
theorem Post.imp (h : Post K W L G B σ o S) (k : ∀ ρ a G' B' H', Grow G B G' B' → S ρ a G' B' H' → S' ρ a G' B' H') : Post K W L G B σ o S' := by
  cases o with
  | ok ρ a => exact fun G2 B2 H2 g => k _ _ _ _ _ g (h G2 B2 H2 g)
  | er ρ e => exact h
  | un => exact h
theorem Post.okD {ρ : Env} {a : α} (h : Post K W L G B σ (.ok ρ a) S) (H : Hp) : S ρ a G B H := h G B H .refl
end
/-- a reading gives f -/
def SemE (X : Cx) (W : WX) (t : TE) (f : Env → O R) : Prop := ∀ L G B H σ ρ Q, OkS X.K L G B H σ ρ →
  Post X.K W L G B σ (f ρ) (fun ρ' r G' B' H' => ∀ v, OkVs X.K L G' H' σ ρ' B' [r] [v] → Q v H') → t σ H Q
def SemA (X : Cx) (W : WX) (t : TA) (f : Env → O (List R)) : Prop := ∀ L G B H σ ρ Q, OkS X.K L G B H σ ρ →
  Post X.K W L G B σ (f ρ) (fun ρ' rs G' B' H' => ∀ vs, OkVs X.K L G' H' σ ρ' B' rs vs → Q vs H') → t σ H Q
def SemT (X : Cx) (W : WX) (t : TT) (f : Env → O Bool) : Prop := ∀ L G B H σ ρ Q, OkS X.K L G B H σ ρ →
  Post X.K W L G B σ (f ρ) (fun ρ' b G' B' H' => OkS X.K L G' B' H' σ ρ' → Q b H') → t σ H Q
/-- an expression gives f -/
def DE (X : Cx) (W : WX) (e : Expr) (t : TE) (f : Env → O R) : Prop := PE X e t ∧ SemE X W t f
def DA (X : Cx) (W : WX) (es : List Expr) (t : TA) (f : Env → O (List R)) : Prop := PA X es t ∧ SemA X W t f
def DT (X : Cx) (W : WX) (e : Expr) (t : TT) (f : Env → O Bool) : Prop := PT X e t ∧ SemT X W t f
def DW (X : Cx) (W : WX) (e : Expr) (t : TT) (f : Env → O Bool) : Prop := PW X e t ∧ SemT X W t f
def untp (ρ : Env) (r : R) : O R := match r with
  | .tp qs => match escR ρ (.tp qs) with
    | some (ρ', d) => .ok ρ' (.fz d)
    | none => .un
  | r => .ok ρ r
def esc (ρ : Env) (r : R) : O D := match escR ρ r with
  | some (ρ', d) => .ok ρ' d
  | none => .un
def use1 (ρ : Env) (r : R) : O D := match useR ρ r with
  | some d => .ok ρ d
  | none => .un
section
variable {K : PySem.W.Frag} {W : WX} {L : Lent} {G B H : Hp} {σ : L2.St} {ρ : Env} {r : R} {rs : List R} {v : V} {vs : List V}
theorem OkVs.untp {S : Env → R → Hp → Hp → Hp → Prop} (h : OkVs K L G H σ ρ B (r :: rs) (v :: vs)) (p : Post K W L G B σ (untp ρ r) S) :
    ∃ ρ' r' G' B', untp ρ r = .ok ρ' r' ∧ Grow G B G' B' ∧ OkVs K L G' H σ ρ' B' (r' :: rs) (v :: vs) ∧ S ρ' r' G' B' H := by
  cases r with
  | fz d => exact ⟨_, _, _, _, rfl, .refl, h, Post.okD p H⟩
  | own d => exact ⟨_, _, _, _, rfl, .refl, h, Post.okD p H⟩
  | bor i => exact ⟨_, _, _, _, rfl, .refl, h, Post.okD p H⟩
  | tp qs =>
    unfold DN.untp at p ⊢
    cases e : escR ρ (.tp qs) with
    | none => simp only [e] at p; exact p.elim
    | some x =>
      obtain ⟨ρ', d⟩ := x
      simp only [e] at p ⊢
      obtain ⟨G', B', g, k⟩ := h.esc e
      exact ⟨_, _, G', B', rfl, g, k, p G' B' H g⟩
theorem OkVs.escP {S : Env → D → Hp → Hp → Hp → Prop} (h : OkVs K L G H σ ρ B (r :: rs) (v :: vs)) (p : Post K W L G B σ (DN.esc ρ r) S) :
    ∃ ρ' d G' B', DN.esc ρ r = .ok ρ' d ∧ Grow G B G' B' ∧ OkVs K L G' H σ ρ' B' (.fz d :: rs) (v :: vs) ∧ S ρ' d G' B' H := by
  unfold DN.esc at p ⊢
  cases e : escR ρ r with
  | none => simp only [e] at p; exact p.elim
  | some x =>
    obtain ⟨ρ', d⟩ := x
    simp only [e] at p ⊢
    obtain ⟨G', B', g, k⟩ := h.esc e
    exact ⟨_, _, G', B', rfl, g, k, p G' B' H g⟩
/-- pending things that are not escaping: their data -/
theorem OkVs.fzI (h : OkVs K L G H σ ρ B (.fz d :: rs) (v :: vs)) : Rep K G d v ∧ OkVs K L G H σ ρ B rs vs := by
  cases h with
  | fz a b => exact ⟨a, b⟩
end
/-- what an operator gives: a value over G, a new object -/
def Res (K : PySem.W.Frag) (G H : Hp) (Q : VK) : R → Prop
  | .fz d => ∀ v, Rep K G d v → Q v H
  | .own d => ∀ p o, H p = none → RepO K G d o → Q (.ref p) (upd H p o)
  | _ => False
theorem OkS.new {K : PySem.W.Frag} {L : Lent} {G B H : Hp} {σ : L2.St} {ρ : Env} {p : Addr} {o : HO} (s : OkS K L G B H σ ρ) (hp : H p = none) : OkS K L G (upd B p o) (upd H p o) σ ρ := by
  have hb : B p = none := none_of_ex s.bh hp
  refine ⟨s.gb.trans (Ex.new hb), s.lb.ex (Ex.new hb), ex_upd s.bh, s.len, s.fz, fun i d h => ?_, s.ln, s.dis⟩
  obtain ⟨l, u, a, b, c, e⟩ := s.ow i d h
  have hl := ne_of_none c hp
  exact ⟨l, u, a, by rw [upd_ne hl]; exact b, by rw [upd_ne hl]; exact c, e⟩
theorem OkS.same {K : PySem.W.Frag} {L : Lent} {G B H : Hp} {σ : L2.St} {ρ : Env} {p : Addr} {o : HO} (s : OkS K L G B H σ ρ) (hp : H p = none) : OkS K L G B (upd H p o) σ ρ :=
  (s.new hp).anti (Ex.new (none_of_ex s.bh hp)) s.gb s.lb
theorem OkS.own {K : PySem.W.Frag} {L : Lent} {G B H : Hp} {σ : L2.St} {ρ : Env} {p : Addr} {o : HO} {d : D} (s : OkS K L G B H σ ρ) (hp : H p = none) (r : RepO K G d o) : OkVs K L G (upd H p o) σ ρ B [.own d] [.ref p] :=
  have hb : B p = none := none_of_ex s.bh hp
  .own (none_of_ex s.gb hb) (s.lb.nl hb) hb r (.nil (s.new hp))
theorem OkS.tup {K : PySem.W.Frag} {L : Lent} {G B H : Hp} {σ : L2.St} {ρ : Env} {p : Addr} {rs : List R} {vs : List V} (s : OkVs K L G H σ ρ B rs vs) (hp : H p = none) : OkVs K L G (upd H p (.tup vs)) σ ρ B [.tp rs] [.ref p] := by
  have hb : B p = none := none_of_ex s.base.2.2 hp
  refine .tp (none_of_ex s.base.1 hb) (s.base.2.1.nl hb) hb s.length ?_
  rw [List.append_nil, List.append_nil]
  -- every piece stands in the larger heaps
  have key : ∀ (ws0 : List V) {B : Hp} {rs : List R} {vs : List V}, OkVs K L G H σ ρ B rs vs → OkVs K L G (upd H p (.tup ws0)) σ ρ (upd B p (.tup ws0)) rs vs := by
    intro ws0 B rs vs h
    induction h with
    | nil s => exact .nil (s.new hp)
    | fz a _ ih => exact .fz a ih
    | bor a _ ih => exact .bor a ih
    | @own B l o d rs vs g l0 b r h ih =>
      have hl : l ≠ p := ne_of_none (h.base.2.2 l o upd_same) hp
      refine .own g l0 (by rw [upd_ne hl]; exact b) r ?_
      rw [upd_comm (Ne.symm hl)]
      exact ih
    | @tp B l qs ws rs vs g l0 b n h ih =>
      have hl : l ≠ p := ne_of_none (h.base.2.2 l _ upd_same) hp
      refine .tp g l0 (by rw [upd_ne hl]; exact b) n ?_
      rw [upd_comm (Ne.symm hl)]
      exact ih
  exact key vs s
theorem OkS.res {K : PySem.W.Frag} {W : WX} {L : Lent} {G B H : Hp} {σ : L2.St} {ρ : Env} {Q : VK} {z : R} (s : OkS K L G B H σ ρ) (hz : ∀ qs, z ≠ .tp qs) (hb : ∀ i, z ≠ .bor i)
    (p : ∀ H' v, OkVs K L G H' σ ρ B [z] [v] → Q v H') : Res K G H Q z := by
  cases z with
  | fz d => exact fun v r => p H v (.fz r (.nil s))
  | own d => exact fun a o ha r => p _ _ (s.own ha r)
  | bor i => exact (hb i rfl).elim
  | tp qs => exact (hz qs rfl).elim
def OpSound (K : PySem.W.Frag) (g : D → D → Option R) (r : R2) : Prop := ∀ G H x y v u z Q, Ex G H → Top K G H x v → Top K G H y u → g x y = some z → Res K G H Q z → r v u H Q
def UnSound (K : PySem.W.Frag) (g : D → Option R) (r : V → Hp → VK → Prop) : Prop := ∀ G H x v z Q, Ex G H → Top K G H x v → g x = some z → Res K G H Q z → r v H Q
inductive Tops (K : PySem.W.Frag) (G H : Hp) : List D → List V → Prop where
  | nil : Tops K G H [] []
  | cons {d v ds vs} : Top K G H d v → Tops K G H ds vs → Tops K G H (d :: ds) (v :: vs)
def CallSound (K : PySem.W.Frag) (g : List D → Option R) (r : List V → Hp → VK → Prop) : Prop := ∀ G H ds vs z Q, Ex G H → Tops K G H ds vs → g ds = some z → Res K G H Q z → r vs H Q
def ret (ρ : Env) : Option R → O R
  | some (.fz d) => .ok ρ (.fz d)
  | some (.own d) => .ok ρ (.own d)
  | _ => .un
def lift2 (g : D → D → Option R) (ρ : Env) (r1 r2 : R) : O R := match useR ρ r1, useR ρ r2 with
  | some x, some y => ret ρ (g x y)
  | _, _ => .un
def dN (f : Env → O R) : Env → O R := fun ρ => (f ρ).bind untp
def dOp (g : D → D → Option R) (f h : Env → O R) : Env → O R := fun ρ => (dN f ρ).bind fun ρ r1 => (dN h ρ).bind fun ρ r2 => lift2 g ρ r1 r2
def dUn (g : D → Option R) (f : Env → O R) : Env → O R := fun ρ => (dN f ρ).bind fun ρ r => (use1 ρ r).bind fun ρ d => ret ρ (g d)
def dVar (i : Nat) : Env → O R := fun ρ => match getD ρ i with
  | some _ => .ok ρ (.bor i)
  | none => .un
def dC (d : D) : Env → O R := fun ρ => .ok ρ (.fz d)
section
variable {X : Cx} {W : WX} {e a b : Expr} {f h : Env → O R} {pos : Pos} {ta tb : TE} {tr : TA} {tta ttb : TT}
theorem ret_ok {K : PySem.W.Frag} {W : WX} {L : Lent} {G B H : Hp} {σ : L2.St} {ρ : Env} {Q : VK} {z : Option R} (s : OkS K L G B H σ ρ)
    (p : Post K W L G B σ (ret ρ z) fun ρ' r G' B' H' => ∀ v, OkVs K L G' H' σ ρ' B' [r] [v] → Q v H') : ∃ y, z = some y ∧ Res K G H Q y := by
  cases z with
  | none => exact False.elim p
  | some y =>
    cases y with
    | fz d => exact ⟨_, rfl, s.res (W := W) (by simp) (by simp) fun H' v k => Post.okD p H' v k⟩
    | own d => exact ⟨_, rfl, s.res (W := W) (by simp) (by simp) fun H' v k => Post.okD p H' v k⟩
    | bor i => exact False.elim p
    | tp qs => exact False.elim p
theorem de_var (i : Nat) {x : Str} (hN : X.N[i]? = some x := by rfl) (hv : Vis X.env.scope x := by first | exact Or.inl rfl | exact Or.inr (Or.inl rfl) | exact Or.inr (Or.inr rfl)) (hd : (x == ("__debug__" : Str)) = false := by decide)
    (hcd : (x == ("__classdict__" : Str)) = false := by decide) : DE X W (.Name x pos) (tVar i) (dVar i) := by
  refine ⟨pe_var hN hv hd hcd, fun L G B H σ ρ Q s p => ?_⟩
  unfold dVar at p
  cases e : getD ρ i with
  | none => simp only [e] at p; exact p.elim
  | some d =>
    simp only [e] at p
    obtain ⟨v, hv⟩ := s.has e
    exact ⟨v, hv, Post.okD p H v (.bor hv (.nil s))⟩
theorem de_c {v : V} {d : D} (he : PE X e (tC v)) (r : ∀ H, Rep X.K H d v) : DE X W e (tC v) (dC d) :=
  ⟨he, fun L G B H σ ρ Q s p => Post.okD p H v (.fz (r G) (.nil s))⟩
theorem de_int {i : Int} {j} : DE X W (.Constant (.int i) j pos) (tC (.int i)) (dC (.int i)) := de_c pe_int fun _ => .int
theorem de_bl {b : Bool} {j} : DE X W (.Constant (.bool b) j pos) (tC (.bl b)) (dC (.bl b)) := de_c pe_bl fun _ => .bl
theorem de_non {j} : DE X W (.Constant .none j pos) (tC .non) (dC .non) := de_c pe_non fun _ => .non
theorem SemE.n {t : TE} (ha : SemE X W t f) : SemE X W t (dN f) := fun L G B H σ ρ Q s p =>
  ha L G B H σ ρ Q s ((Post.bind p).imp fun ρ1 r1 G1 B1 H1 _ q1 v k1 => by
    obtain ⟨ρ2, r2, G2, B2, _, g2, k2, q2⟩ := k1.untp q1
    exact q2 v k2)
/-- one more behind what is held -/
theorem OkVs.thenE {t : TE} {L : Lent} {G B H : Hp} {σ : L2.St} {ρ : Env} {Q : VK} {rs : List R} {vs : List V} (k : OkVs X.K L G H σ ρ B rs vs) (hb : SemE X W t h)
    (p : Post X.K W L G B σ (h ρ) (fun ρ' r G' B' H' => ∀ v, OkVs X.K L G' H' σ ρ' B' (rs ++ [r]) (vs ++ [v]) → Q v H')) : t σ H Q := by
  obtain ⟨B3, e3, s3, hold⟩ := k.hold
  refine hb L G B3 H σ ρ _ s3 ?_
  cases eh : h ρ with
  | un => rw [eh] at p; exact p
  | er ρ4 e4 =>
    rw [eh] at p
    intro G' B' H' c d gr s4 oe
    obtain ⟨B5, g5, k5⟩ := hold gr (.nil s4)
    exact p G' B5 H' c d g5 (k5.state k5.length) oe
  | ok ρ4 r4 =>
    rw [eh] at p
    intro G' B' H' gr w k4
    obtain ⟨B5, g5, k5⟩ := hold gr k4
    exact p G' B5 H' g5 w k5
theorem OkVs.thenA {t : TA} {L : Lent} {G B H : Hp} {σ : L2.St} {ρ : Env} {Q : List V → Hp → Prop} {rs : List R} {vs : List V} {h : Env → O (List R)} (k : OkVs X.K L G H σ ρ B rs vs) (hb : SemA X W t h)
    (p : Post X.K W L G B σ (h ρ) (fun ρ' ss G' B' H' => ∀ us, OkVs X.K L G' H' σ ρ' B' (rs ++ ss) (vs ++ us) → Q us H')) : t σ H Q := by
  obtain ⟨B3, e3, s3, hold⟩ := k.hold
  refine hb L G B3 H σ ρ _ s3 ?_
  cases eh : h ρ with
  | un => rw [eh] at p; exact p
  | er ρ4 e4 =>
    rw [eh] at p
    intro G' B' H' c d gr s4 oe
    obtain ⟨B5, g5, k5⟩ := hold gr (.nil s4)
    exact p G' B5 H' c d g5 (k5.state k5.length) oe
  | ok ρ4 r4 =>
    rw [eh] at p
    intro G' B' H' gr w k4
    obtain ⟨B5, g5, k5⟩ := hold gr k4
    exact p G' B5 H' g5 w k5
theorem lift2_ok {K : PySem.W.Frag} {L : Lent} {G B H : Hp} {σ : L2.St} {ρ : Env} {Q : VK} {g : D → D → Option R} {r : R2} {r1 r2 : R} {v u : V} (hg : OpSound K g r) (k : OkVs K L G H σ ρ B [r1, r2] [v, u])
    (p : Post K W L G B σ (lift2 g ρ r1 r2) fun ρ' r G' B' H' => ∀ v, OkVs K L G' H' σ ρ' B' [r] [v] → Q v H') : r v u H Q := by
  have s := k.state
  unfold lift2 at p
  cases u1 : useR ρ r1 with
  | none => simp only [u1] at p; exact p.elim
  | some x =>
    cases u2 : useR ρ r2 with
    | none => simp only [u1, u2] at p; exact p.elim
    | some y =>
      simp only [u1, u2] at p
      obtain ⟨z, ez, rz⟩ := ret_ok s p
      exact hg G H x y v u z Q s.gh (k.use u1) (k.tail.use u2) ez rz
/-- two operands in a row -/
theorem two {t u : TE} {g : D → D → Option R} {r : R2} (hg : OpSound X.K g r) (ha : SemE X W t f) (hb : SemE X W u h) : SemE X W (tOp r t u) (dOp g f h) := fun L G B H σ ρ Q s p =>
  ha.n L G B H σ ρ _ s ((Post.bind p).imp fun ρ1 r1 G1 B1 H1 _ q1 v k1 => k1.thenE hb.n ((Post.bind q1).imp fun ρ2 r2 G2 B2 H2 _ q2 w k2 => lift2_ok hg k2 q2))
theorem one {t : TE} {g : D → Option R} {r : V → Hp → VK → Prop} (hg : UnSound X.K g r) (ha : SemE X W t f) : SemE X W (tUn r t) (dUn g f) := fun L G B H σ ρ Q s p =>
  ha.n L G B H σ ρ _ s ((Post.bind p).imp fun ρ2 r2 G2 B2 H1 _ q2 v k2 => by
    have s2 := k2.state
    unfold use1 at q2
    cases u : useR ρ2 r2 with
    | none => simp only [u] at q2; exact q2.elim
    | some d =>
      simp only [u] at q2
      obtain ⟨z, ez, rz⟩ := ret_ok s2 q2
      exact hg G2 H1 d v z Q s2.gh (k2.use u) ez rz)
theorem de_op {op : Operator} {g : D → D → Option R} {r : R2} (ho : OpR X (binaryOp op) r) (hg : OpSound X.K g r) (ha : DE X W a ta f) (hb : DE X W b tb h) : DE X W (.BinOp a op b pos) (tOp r ta tb) (dOp g f h) := by
  obtain ⟨pt, ha⟩ := ha
  obtain ⟨pu, hb⟩ := hb
  exact ⟨pe_op ho pt pu, two hg ha hb⟩
theorem de_cmp {op : CmpOp} {g : D → D → Option R} {r : R2} (ho : OpR X (compareOp op) r) (hg : OpSound X.K g r) (ha : DE X W a ta f) (hb : DE X W b tb h) (hm : behindInMarks op b = false := by first | exact nomark _ | rfl) : DE X W (.Compare a [op] [b] pos) (tOp r ta tb) (dOp g f h) := by
  obtain ⟨pt, ha⟩ := ha
  obtain ⟨pu, hb⟩ := hb
  exact ⟨pe_cmpR ho pt pu hm, two hg ha hb⟩
theorem de_un {op : UnaryOp} {g : D → Option R} {r : V → Hp → VK → Prop} (ho : UnR X (unaryOp op) r) (hg : UnSound X.K g r) (ha : DE X W a ta f) : DE X W (.UnaryOp op a pos) (tUn r ta) (dUn g f) := by
  obtain ⟨pt, ha⟩ := ha
  exact ⟨pe_un ho pt, one hg ha⟩
def dTest (f : Env → O R) : Env → O Bool := fun ρ => (dN f ρ).bind fun ρ r => match useR ρ r with
  | some (.bl b) => .ok ρ b
  | _ => .un
theorem sem_test {t : TE} (ha : SemE X W t f) : SemT X W (tTest t) (dTest f) := fun L G B H σ ρ Q s p =>
  ha.n L G B H σ ρ _ s ((Post.bind p).imp fun ρ2 r2 G2 B2 H1 _ q2 v k2 => by
    have s2 := k2.state
    cases u : useR ρ2 r2 with
    | none => simp only [u] at q2; exact q2.elim
    | some d =>
      simp only [u] at q2
      cases d <;> try exact q2.elim
      have t := k2.use u
      cases t
      exact ⟨_, rfl, Post.okD q2 H1 s2⟩)
theorem dt_cmp {op : CmpOp} {g : D → D → Option R} {r : R2} (ho : OpR X (compareOp op) r) (hg : OpSound X.K g r) (ha : DE X W a ta f) (hb : DE X W b tb h) (hm : behindInMarks op b = false := by first | exact nomark _ | rfl) : DT X W (.Compare a [op] [b] pos) (tTest (tOp r ta tb)) (dTest (dOp g f h)) := by
  obtain ⟨pt, ha⟩ := ha
  obtain ⟨pu, hb⟩ := hb
  exact ⟨pt_cmpR ho pt pu hm, sem_test (two hg ha hb)⟩
variable {c : Expr} {rest : List Expr} {ft fu : Env → O Bool}
def dAnd (f g : Env → O Bool) : Env → O Bool := fun ρ => (f ρ).bind fun ρ b => if b = true then g ρ else .ok ρ false
def dOr (f g : Env → O Bool) : Env → O Bool := fun ρ => (f ρ).bind fun ρ b => if b = true then .ok ρ true else g ρ
def dNot (f : Env → O Bool) : Env → O Bool := fun ρ => (f ρ).bind fun ρ b => .ok ρ (!b)
theorem DW.dt (h : DW X W e tta ft) : DT X W e tta ft := ⟨h.1.pt, h.2⟩
theorem dw_and1 (ha : DT X W a tta ft) : DW X W (.BoolOp .And [a] pos) tta ft := ⟨pw_and1 ha.1, ha.2⟩
theorem dw_or1 (ha : DT X W a tta ft) : DW X W (.BoolOp .Or [a] pos) tta ft := ⟨pw_or1 ha.1, ha.2⟩
theorem dw_and (ha : DT X W a tta ft) (hb : DW X W (.BoolOp .And (b :: rest) pos) ttb fu) : DW X W (.BoolOp .And (a :: b :: rest) pos) (tAnd tta ttb) (dAnd ft fu) := by
  obtain ⟨pt, ha⟩ := ha
  obtain ⟨pu, hb⟩ := hb
  refine ⟨pw_and pt pu, fun L G B H σ ρ Q s p => ha L G B H σ ρ _ s ((Post.bind p).imp fun ρ1 b1 G1 B1 H1 _ q s1 => ?_)⟩
  cases b1 with
  | true => exact hb L G1 B1 H1 σ ρ1 Q s1 q
  | false => exact Post.okD q H1 s1
theorem dw_or (ha : DT X W a tta ft) (hb : DW X W (.BoolOp .Or (b :: rest) pos) ttb fu) : DW X W (.BoolOp .Or (a :: b :: rest) pos) (tOr tta ttb) (dOr ft fu) := by
  obtain ⟨pt, ha⟩ := ha
  obtain ⟨pu, hb⟩ := hb
  refine ⟨pw_or pt pu, fun L G B H σ ρ Q s p => ha L G B H σ ρ _ s ((Post.bind p).imp fun ρ1 b1 G1 B1 H1 _ q s1 => ?_)⟩
  cases b1 with
  | true => exact Post.okD q H1 s1
  | false => exact hb L G1 B1 H1 σ ρ1 Q s1 q
theorem dt_not (ha : DT X W a tta ft) : DT X W (.UnaryOp .Not a pos) (tNot tta) (dNot ft) := by
  obtain ⟨pt, ha⟩ := ha
  exact ⟨pt_not pt, fun L G B H σ ρ Q s p => ha L G B H σ ρ _ s ((Post.bind p).imp fun ρ1 b1 G1 B1 H1 _ q s1 => Post.okD q H1 s1)⟩
def dIf (c : Env → O Bool) (f g : Env → O R) : Env → O R := fun ρ => (c ρ).bind fun ρ b => if b = true then f ρ else g ρ
theorem de_if (hc : DT X W c tta ft) (ha : DE X W a ta f) (hb : DE X W b tb h) : DE X W (.IfExp c a b pos) (tIf tta ta tb) (dIf ft f h) := by
  obtain ⟨pt, hc⟩ := hc
  obtain ⟨pu, ha⟩ := ha
  obtain ⟨pw, hb⟩ := hb
  refine ⟨pe_ifExp pt pu pw, fun L G B H σ ρ Q s p => hc L G B H σ ρ _ s ((Post.bind p).imp fun ρ1 b1 G1 B1 H1 _ q s1 => ?_)⟩
  cases b1 with
  | true => exact ha L G1 B1 H1 σ ρ1 Q s1 q
  | false => exact hb L G1 B1 H1 σ ρ1 Q s1 q
def dAndV (f g : Env → O R) : Env → O R := fun ρ => (dTest f ρ).bind fun ρ b => if b = true then g ρ else .ok ρ (.fz (.bl false))
def dOrV (f g : Env → O R) : Env → O R := fun ρ => (dTest f ρ).bind fun ρ b => if b = true then .ok ρ (.fz (.bl true)) else g ρ
def dNotV (f : Env → O R) : Env → O R := fun ρ => (dTest f ρ).bind fun ρ b => .ok ρ (.fz (.bl (!b)))
theorem de_one {op} (ha : DE X W a ta f) : DE X W (.BoolOp op [a] pos) ta f := ⟨pe_one ha.1, ha.2⟩
theorem sem_testV {t : TE} (ha : SemE X W t f) {L : Lent} {G B H : Hp} {σ : L2.St} {ρ : Env} {k : Env → Bool → O R} {Q : VK} {Z : Bool → Hp → Prop} (s : OkS X.K L G B H σ ρ)
    (p : Post X.K W L G B σ ((dTest f ρ).bind k) fun ρ' r G' B' H' => ∀ v, OkVs X.K L G' H' σ ρ' B' [r] [v] → Q v H')
    (hz : ∀ ρ1 b G1 B1 H1, OkS X.K L G1 B1 H1 σ ρ1 → Post X.K W L G1 B1 σ (k ρ1 b) (fun ρ' r G' B' H' => ∀ v, OkVs X.K L G' H' σ ρ' B' [r] [v] → Q v H') → Z b H1) :
    t σ H fun x H1 => ∃ b, x = .bl b ∧ Z b H1 := sem_test ha L G B H σ ρ Z s ((Post.bind p).imp fun ρ1 b1 G1 B1 H1 _ q s1 => hz ρ1 b1 G1 B1 H1 s1 q)
theorem de_and (ha : DE X W a ta f) (hb : DE X W (.BoolOp .And (b :: rest) pos) tb h) : DE X W (.BoolOp .And (a :: b :: rest) pos) (tAndV ta tb) (dAndV f h) := by
  obtain ⟨pt, ha⟩ := ha
  obtain ⟨pu, hb⟩ := hb
  refine ⟨pe_and pt pu, fun L G B H σ ρ Q s p => sem_testV ha s p fun ρ1 b1 G1 B1 H1 s1 q => ?_⟩
  cases b1 with
  | true => exact hb L G1 B1 H1 σ ρ1 Q s1 q
  | false => exact Post.okD q H1 _ (.fz .bl (.nil s1))
theorem de_or (ha : DE X W a ta f) (hb : DE X W (.BoolOp .Or (b :: rest) pos) tb h) : DE X W (.BoolOp .Or (a :: b :: rest) pos) (tOrV ta tb) (dOrV f h) := by
  obtain ⟨pt, ha⟩ := ha
  obtain ⟨pu, hb⟩ := hb
  refine ⟨pe_or pt pu, fun L G B H σ ρ Q s p => sem_testV ha s p fun ρ1 b1 G1 B1 H1 s1 q => ?_⟩
  cases b1 with
  | true => exact Post.okD q H1 _ (.fz .bl (.nil s1))
  | false => exact hb L G1 B1 H1 σ ρ1 Q s1 q
def dNil : Env → O (List R) := fun ρ => .ok ρ []
def dCons (f : Env → O R) (g : Env → O (List R)) : Env → O (List R) := fun ρ => (f ρ).bind fun ρ r => (g ρ).bind fun ρ rs => .ok ρ (r :: rs)
theorem da_nil : DA X W [] tNil dNil := ⟨pa_nil, fun L G B H σ ρ Q s p => Post.okD p H [] (.nil s)⟩
variable {es : List Expr} {fs : Env → O (List R)}
theorem da_cons (ha : DE X W e ta f) (hr : DA X W es tr fs) (hs : starEach (e :: es) X.env = (false, eval e X.env) :: starEach es X.env := by rfl) : DA X W (e :: es) (tCons ta tr) (dCons f fs) := by
  obtain ⟨pt, ha⟩ := ha
  obtain ⟨pu, hr⟩ := hr
  exact ⟨pa_cons pt pu hs, fun L G B H σ ρ Q s p => ha L G B H σ ρ _ s ((Post.bind p).imp fun ρ1 r1 G1 B1 H1 _ q v k => k.thenA hr ((Post.bind q).imp fun ρ2 r2 G2 B2 H2 _ q2 w k2 => Post.okD q2 H2 _ k2))⟩
/-- all of them frozen -/
def escs (ρ : Env) (rs : List R) : O (List D) := match escRs ρ rs with
  | some (ρ', ds) => .ok ρ' ds
  | none => .un
theorem OkVs.escsP {K : PySem.W.Frag} {L : Lent} {G B H : Hp} {σ : L2.St} {ρ : Env} {rs : List R} {vs : List V} {S : Env → List D → Hp → Hp → Hp → Prop} (k : OkVs K L G H σ ρ B rs vs) (p : Post K W L G B σ (DN.escs ρ rs) S) :
    ∃ ρ' ds G' B', DN.escs ρ rs = .ok ρ' ds ∧ Grow G B G' B' ∧ OkS K L G' B' H σ ρ' ∧ Reps K G' ds vs ∧ S ρ' ds G' B' H := by
  unfold DN.escs at p ⊢
  cases e : escRs ρ rs with
  | none => simp only [e] at p; exact p.elim
  | some x =>
    obtain ⟨ρ', ds⟩ := x
    simp only [e] at p ⊢
    obtain ⟨G', B', g, k', m⟩ := OkVs.escs (qs := rs) (rs := []) (ws := vs) (vs := []) (by simpa using k) k.length e
    obtain ⟨r, k2⟩ := OkVs.fzs k' m
    exact ⟨_, _, G', B', rfl, g, k2.state, r, p G' B' H g⟩
def dLst (g : Env → O (List R)) : Env → O R := fun ρ => (g ρ).bind fun ρ rs => (escs ρ rs).bind fun ρ ds => if ds.length ≤ 100000 then .ok ρ (.own (.lst ds)) else .un
def dTup (g : Env → O (List R)) : Env → O R := fun ρ => (g ρ).bind fun ρ rs => if rs.length ≤ 100000 then .ok ρ (.tp rs) else .un
theorem line_of {n : Nat} (h : n ≤ 100000) : n ≤ sizeLine := Nat.le_trans h (by rw [sizeLine_eq]; decide)
theorem de_lst (ha : DA X W es tr fs) : DE X W (.List es pos) (tLst tr) (dLst fs) := by
  obtain ⟨pt, ha⟩ := ha
  refine ⟨pe_lst pt, fun L G B H σ ρ Q s p => ha L G B H σ ρ _ s ((Post.bind p).imp fun ρ1 r1 G1 B1 H1 _ q vs k => ?_)⟩
  obtain ⟨ρ2, ds, G2, B2, _, g2, s2, rp, q2⟩ := k.escsP (Post.bind q)
  by_cases hl : ds.length ≤ 100000
  · rw [if_pos hl] at q2
    exact ⟨by rw [rp.length]; exact line_of hl, fun a ha => Post.okD q2 _ _ (s2.own ha (.lst rp))⟩
  · rw [if_neg hl] at q2; exact q2.elim
theorem de_tup {x1} (ha : DA X W es tr fs) : DE X W (.Tuple es x1 pos) (tTup tr) (dTup fs) := by
  obtain ⟨pt, ha⟩ := ha
  refine ⟨pe_tup pt, fun L G B H σ ρ Q s p => ha L G B H σ ρ _ s ((Post.bind p).imp fun ρ1 r1 G1 B1 H1 _ q vs k => ?_)⟩
  by_cases hl : r1.length ≤ 100000
  · rw [if_pos hl] at q
    exact ⟨by rw [← k.length]; exact line_of hl, fun a ha => Post.okD q _ _ (OkS.tup k ha)⟩
  · rw [if_neg hl] at q; exact q.elim
/-- the operands of a call on values -/
def usesR (ρ : Env) : List R → Option (List D)
  | [] => some []
  | r :: rs => match useR ρ r, usesR ρ rs with
    | some d, some ds => some (d :: ds)
    | _, _ => none
theorem OkVs.uses {K : PySem.W.Frag} {L : Lent} {G H : Hp} {σ : L2.St} {ρ : Env} : ∀ {rs : List R} {vs : List V} {ds : List D} {B : Hp}, OkVs K L G H σ ρ B rs vs → usesR ρ rs = some ds → Tops K G H ds vs
  | [], vs, ds, B, k, u => by
    cases u
    cases k
    exact .nil
  | r :: rs, vs, ds, B, k, u => by
    have hl := k.length
    cases vs with
    | nil => simp at hl
    | cons v vs =>
      unfold usesR at u
      cases u1 : useR ρ r with
      | none => simp only [u1] at u; cases u
      | some d =>
        cases u2 : usesR ρ rs with
        | none => simp only [u1, u2] at u; cases u
        | some ds' =>
          simp only [u1, u2] at u
          cases u
          exact .cons (k.use u1 (by simpa using hl)) (OkVs.uses k.tail u2)
/-- tuples among the arguments are frozen -/
def dConsN (f : Env → O R) (g : Env → O (List R)) : Env → O (List R) := dCons (dN f) g
theorem da_consN (ha : DE X W e ta f) (hr : DA X W es tr fs) (hs : starEach (e :: es) X.env = (false, eval e X.env) :: starEach es X.env := by rfl) : DA X W (e :: es) (tCons ta tr) (dConsN f fs) :=
  da_cons ⟨ha.1, ha.2.n⟩ hr hs
def dCB (g : List D → Option R) (fs : Env → O (List R)) : Env → O R := fun ρ => (fs ρ).bind fun ρ rs => match usesR ρ rs with
  | some ds => ret ρ (g ds)
  | none => .un
theorem sem_cb {t : TA} {g : List D → Option R} {r : List V → Hp → VK → Prop} (hg : CallSound X.K g r) (ha : SemA X W t fs) : SemE X W (tCB r t) (dCB g fs) := fun L G B H σ ρ Q s p =>
  ha L G B H σ ρ _ s ((Post.bind p).imp fun ρ1 r1 G1 B1 H1 _ q vs k => by
    cases u : usesR ρ1 r1 with
    | none => simp only [u] at q; exact q.elim
    | some ds =>
      simp only [u] at q
      have s1 := k.state k.length
      obtain ⟨z, ez, rz⟩ := ret_ok s1 q
      exact hg G1 H1 ds vs z Q s1.gh (k.uses u) ez rz)
end
end DN
set_option maxHeartbeats 2000000
namespace DN
open PySem PySem.Spec PyProof.Rows L2
open Evl (Ex)
def band (i j : Int) : Int := Builtin.bitAnd i j
def bor (i j : Int) : Int := Builtin.bitOr i j
def bxor (i j : Int) : Int := Builtin.bitXor i j
def bnot (i : Int) : Int := Builtin.bitNot i
def ibits (i : Int) : Nat := Builtin.Int.intBits i
def okMul (i j : Int) : Bool := Nat.ble (ibits i) 64 || (Nat.ble (ibits j) 64 || Nat.ble (ibits i + ibits j) 134217728)
def okPow (i j : Int) : Bool := decide (0 ≤ j) && Nat.ble (ibits i * j.toNat) 134217728
def okShl (i j : Int) : Bool := decide (0 ≤ j) && Nat.ble (ibits i + j.toNat) 134217728
def okDiv (j : Int) : Bool := decide (0 < j) && Nat.blt j.natAbs.log2 9000
/-- powers of two as naturals: the kernel works them out quickly -/
def shlI (i j : Int) : Int := i * ((2 ^ j.toNat : Nat) : Int)
def shrI (i j : Int) : Int := i / ((2 ^ j.toNat : Nat) : Int)
def iI (c : Int → Int → Bool) (f : Int → Int → Int) (x y : D) : Option R := match x, y with
  | .int i, .int j => if c i j = true then some (.fz (.int (f i j))) else none
  | _, _ => none
def iB (f : Int → Int → Bool) (x y : D) : Option R := match x, y with
  | .int i, .int j => some (.fz (.bl (f i j)))
  | _, _ => none
section
variable {K : PySem.W.Frag} {X : Cx}
theorem Top.int_inv {G H : Hp} {i : Int} {v : V} (h : Top K G H (.int i) v) : v = .int i := by cases h; rfl
theorem Top.str_inv {G H : Hp} {i : Str} {v : V} (h : Top K G H (.str i) v) : v = .str i := by cases h; rfl
theorem sd_I {c : Int → Int → Bool} {f : Int → Int → Int} {C : Int → Int → Prop} (hc : ∀ i j, c i j = true → C i j) : OpSound K (iI c f) (rI C fun i j => .int (f i j)) := by
  intro G H x y v u z Q e hx hy g r
  unfold iI at g
  split at g
  · split at g
    · rename_i i j hcc
      cases g
      exact ⟨i, j, hx.int_inv, hy.int_inv, hc i j hcc, r _ .int⟩
    · cases g
  · cases g
theorem sd_I0 {f : Int → Int → Int} : OpSound K (iI (fun _ _ => true) f) (rI0 fun i j => .int (f i j)) := by
  intro G H x y v u z Q e hx hy g r
  unfold iI at g
  split at g
  · simp only [if_true] at g
    cases g
    exact ⟨_, _, hx.int_inv, hy.int_inv, r _ .int⟩
  · cases g
theorem sd_B0 {f : Int → Int → Bool} : OpSound K (iB f) (rI0 fun i j => .bl (f i j)) := by
  intro G H x y v u z Q e hx hy g r
  unfold iB at g
  split at g
  · cases g
    exact ⟨_, _, hx.int_inv, hy.int_inv, r _ .bl⟩
  · cases g
/-- one rule or another -/
def orE {α : Type} (a b : D → D → Option α) (x y : D) : Option α := match a x y with
  | some z => some z
  | none => b x y
theorem OpSound.or {g g' : D → D → Option R} {r r' : R2} (h : OpSound K g r) (h' : OpSound K g' r') : OpSound K (orE g g') fun x y H Q => r x y H Q ∨ r' x y H Q := by
  intro G H x y v u z Q e hx hy q w
  unfold orE at q
  cases e1 : g x y with
  | some z1 => rw [e1] at q; cases q; exact .inl (h G H x y v u z Q e hx hy e1 w)
  | none => rw [e1] at q; exact .inr (h' G H x y v u z Q e hx hy q w)
def strAdd (x y : D) : Option R := match x, y with
  | .str a, .str b => if a.length + b.length ≤ 1000000 then some (.fz (.str (a ++ b))) else none
  | _, _ => none
def lstAdd (x y : D) : Option R := match x, y with
  | .lst a, .lst b => if a.length + b.length ≤ 100000 then some (.own (.lst (a ++ b))) else none
  | _, _ => none
def tupAdd (x y : D) : Option R := match x, y with
  | .tup a, .tup b => if a.length + b.length ≤ 100000 ∧ a ≠ [] ∧ b ≠ [] then some (.own (.tup (a ++ b))) else none
  | _, _ => none
theorem million {n : Nat} (h : n ≤ 1000000) : n ≤ sizeLine := Nat.le_trans h (by rw [sizeLine_eq]; decide)
theorem sd_strAdd : OpSound K strAdd fun x y H Q => ∃ i j, x = .str i ∧ y = .str j ∧ i.length + j.length ≤ sizeLine ∧ Q (.str (i ++ j)) H := by
  intro G H x y v u z Q e hx hy g r
  unfold strAdd at g
  split at g
  · split at g
    · rename_i hl
      cases g
      exact ⟨_, _, hx.str_inv, hy.str_inv, million hl, r _ .str⟩
    · cases g
  · cases g
/-- lists that are read -/
def rCatR (K : PySem.W.Frag) : R2 := fun x y H Q => ∃ l b xs zs, x = .ref l ∧ y = .ref b ∧ SqX K H l xs ∧ SqX K H b zs ∧ xs.length + zs.length ≤ sizeLine ∧ ∀ p, H p = none → Q (.ref p) (upd H p (.lst (xs ++ zs)))
theorem op_catR : OpR X (binaryOp .Add) (rCatR X.K) := by
  intro pins s σ H x y v u Q I rx ry ⟨l, b, xs, zs, ex, ey, hl, hb, hz, q⟩
  subst ex; subst ey
  cases rx; cases ry
  obtain ⟨i1, n1, r1, e1, z1⟩ := hl.get I
  obtain ⟨i2, n2, r2, e2, z2⟩ := hb.get I
  have k1 := r1.length
  have k2 := r2.length
  refine PySem.P.add_list e1 e2 ?_ (by simp only [List.size_toArray]; omega)
  rw [show i1.toArray ++ i2.toArray = (i1 ++ i2).toArray by simp]
  exact ⟨.ref _, _, I.lnew (t' := s.toks) (r1.append r2) (by rw [List.length_append]; omega), rfl, q _ I.fresh⟩
theorem sd_lstAdd : OpSound K lstAdd (rCatR K) := by
  intro G H x y v u z Q e hx hy g r
  unfold lstAdd at g
  split at g
  · split at g
    · rename_i hl
      cases g
      cases hx with
      | lst a ra =>
        cases hy with
        | lst b rb =>
          refine ⟨_, _, _, _, rfl, rfl, a, b, by rw [ra.length, rb.length]; exact line_of hl, fun p hp => r p _ hp (.lst (ra.append rb))⟩
    · cases g
  · cases g
theorem sd_tupAdd : OpSound K tupAdd (rCatA K) := by
  intro G H x y v u z Q e hx hy g r
  unfold tupAdd at g
  split at g
  · split at g
    · rename_i hl
      cases g
      cases hx with
      | tup a ra =>
        cases hy with
        | tup b rb =>
          refine ⟨_, _, _, _, rfl, rfl, a, b, by rw [ra.length, rb.length]; exact line_of hl.1, fun z => ?_, fun _ z => ?_, fun _ _ p hp => r p _ hp (.tup (ra.append rb))⟩
          · subst z; cases ra; exact absurd rfl hl.2.1
          · subst z; cases rb; exact absurd rfl hl.2.2
    · cases g
  · cases g
def gAdd : D → D → Option R := orE (iI (fun _ _ => true) fun i j => i + j) (orE lstAdd (orE strAdd tupAdd))
def rAddA (K : PySem.W.Frag) : R2 := fun x y H Q => rI0 (fun i j => .int (i + j)) x y H Q ∨ rCatR K x y H Q ∨ (∃ i j, x = .str i ∧ y = .str j ∧ i.length + j.length ≤ sizeLine ∧ Q (.str (i ++ j)) H) ∨ rCatA K x y H Q
theorem o_add : OpR X (binaryOp .Add) (rAddA X.K) := OpR.or op_add (OpR.or op_catR (OpR.or op_add_str op_catA))
theorem s_add : OpSound K gAdd (rAddA K) := OpSound.or sd_I0 (OpSound.or sd_lstAdd (OpSound.or sd_strAdd sd_tupAdd))
def gSub : D → D → Option R := iI (fun _ _ => true) fun i j => i - j
theorem s_sub : OpSound K gSub (rI0 fun i j => .int (i - j)) := sd_I0
def lstRep (x y : D) : Option R := match x, y with
  | .lst a, .int k => if -1000000 ≤ k ∧ k ≤ 1000000 ∧ a.length * k.toNat ≤ 100000 then some (.own (.lst (List.replicate k.toNat a).flatten)) else none
  | _, _ => none
theorem CMulA {i j : Int} (h : okMul i j = true) : IntMulOk i j := by
  unfold okMul at h
  rcases Bool.or_eq_true_iff.mp h with h | h
  · exact IntMulOk.of_left (Nat.le_of_ble_eq_true h)
  · rcases Bool.or_eq_true_iff.mp h with h | h
    · exact IntMulOk.of_right (Nat.le_of_ble_eq_true h)
    · exact CMulX.ok (by have := Nat.le_of_ble_eq_true h; unfold ibits at this; show _ ≤ _; omega)
theorem okPow_ok {i j : Int} (h : okPow i j = true) : 0 ≤ j ∧ (Builtin.Int.intBits i : Int) * j ≤ 2 ^ 27 := by
  obtain ⟨h1, h2⟩ := Bool.and_eq_true_iff.mp h
  have h1 := of_decide_eq_true h1
  have h2 := Nat.le_of_ble_eq_true h2
  refine ⟨h1, ?_⟩
  obtain ⟨n, rfl⟩ := Int.eq_ofNat_of_zero_le h1
  have h3 : Builtin.Int.intBits i * n ≤ 134217728 := h2
  have e : (2 : Int) ^ 27 = 134217728 := by decide
  rw [e, ← Int.natCast_mul]
  exact Int.ofNat_le.mpr h3
theorem okShl_ok {i j : Int} (h : okShl i j = true) : CShl i j := by
  obtain ⟨h1, h2⟩ := Bool.and_eq_true_iff.mp h
  have h1 := of_decide_eq_true h1
  have h2 := Nat.le_of_ble_eq_true h2
  refine ⟨h1, ?_⟩
  have e : (2 : Int) ^ 27 = 134217728 := by decide
  rw [e]
  unfold ibits at h2
  omega
theorem okDiv_ok {j : Int} (h : okDiv j = true) : CDivW 0 j := by
  obtain ⟨h1, h2⟩ := Bool.and_eq_true_iff.mp h
  exact ⟨of_decide_eq_true h1, Nat.le_of_ble_eq_true h2⟩
theorem shlI_eq (i j : Int) : shlI i j = i * 2 ^ j.toNat := by
  unfold shlI
  rw [Int.natCast_pow]
  rfl
theorem shrI_eq (i j : Int) : shrI i j = i / 2 ^ j.toNat := by
  unfold shrI
  rw [Int.natCast_pow]
  rfl
theorem op_mulA : OpR X (binaryOp .Mult) (rI (fun i j => okMul i j = true) fun i j => .int (i * j)) := opI fun _ _ _ _ _ _ _ hc q => mul_int q (CMulA hc)
theorem Reps.rep {H : Hp} {ds : List D} {vs : List V} (h : Reps K H ds vs) : ∀ n : Nat, Reps K H (List.replicate n ds).flatten (List.replicate n vs).flatten
  | 0 => .nil
  | n + 1 => by
    rw [List.replicate_succ, List.replicate_succ, List.flatten_cons, List.flatten_cons]
    exact h.append (Reps.rep h n)
def rRepR (K : PySem.W.Frag) : R2 := fun x y H Q => ∃ l k xs, x = .ref l ∧ y = .int k ∧ SqX K H l xs ∧ -(2 ^ 63) ≤ k ∧ k < 2 ^ 63 ∧ xs.length * k.toNat ≤ sizeLine ∧
  ∀ p, H p = none → Q (.ref p) (upd H p (.lst (List.replicate k.toNat xs).flatten))
theorem op_repR : OpR X (binaryOp .Mult) (rRepR X.K) := by
  intro pins s σ H x y v u Q I rx ry ⟨l, k, xs, ex, ey, hl, h1, h2, hz, q⟩
  subst ex; subst ey
  cases rx
  obtain ⟨t, et⟩ := ry
  subst et
  obtain ⟨its, n, r, e, z⟩ := hl.get I
  have kl := r.length
  have hlen : its.toArray.size * k.toNat ≤ sizeLine := by simp only [List.size_toArray, ← kl]; exact hz
  have a1 : ¬ its.toArray.size * k.toNat > (2 ^ 63 - 1) / 8 := by
    have : (sizeLine : Nat) ≤ (2 ^ 63 - 1) / 8 := by rw [sizeLine_eq]; decide
    omega
  have a2 : ¬ (!Builtin.List.listFitsIndex k) = true := by rw [fitsIndex_both h1 h2]; decide
  have a3 : ¬ Builtin.List.listTooLong (its.toArray.size * k.toNat) = true := by rw [notLongL hlen]; decide
  have f0 : ∀ m : Nat, List.foldl (fun x1 x2 => x1 ++ x2) #[] (List.replicate m its.toArray) = (List.replicate m its).flatten.toArray := fun m => by
    have g := foldl_rep its m []
    rwa [List.nil_append] at g
  have hnew : List.foldl (fun x1 x2 => x1 ++ x2) #[] (List.replicate (if its.toArray.isEmpty = true then 0 else k.toNat) its.toArray) = (List.replicate k.toNat its).flatten.toArray := by
    rw [f0]
    cases its with
    | nil => simp
    | cons a r' => rw [if_neg (by simp)]
  refine wpAny_binaryOp_repeat_ref (T := "list") (U := "int") (by decide) ⟨_, e, rfl⟩ (fun s' => typeIs_int s' k t) noFill_list_mul F.fills_int_mul F.slot_int_rmul repeat_list F.slot_int_index.lookup ?_
  refine call_meets F.slot_int_rmul (typeIs_int s k t) F.entry_int_rmul (F.args_int_rmul_2 _ _) (int___rmul___int_list k t l its.toArray n) ⟨e, rfl, ⟨_, e, rfl⟩, ?_⟩
  refine call_meets F.slot_list_mul ⟨_, e, rfl⟩ F.entry_list_mul (F.args_list_mul_2 _ _) (AutoListH.list___mul___list_int_3 l its.toArray n k t a2 a1 a3) ⟨e, ?_⟩
  rw [hnew]
  exact ⟨.ref _, _, I.lnew (t' := s.toks) (r.rep k.toNat) (by rw [PyProof.Rows.lm_len_rep_flat, Nat.mul_comm]; exact hz), rfl, q _ I.fresh⟩
theorem sd_lstRep : OpSound K lstRep (rRepR K) := by
  intro G H x y v u z Q e hx hy g r
  unfold lstRep at g
  split at g
  · split at g
    · rename_i hl
      cases g
      cases hx with
      | lst a ra =>
        refine ⟨_, _, _, rfl, hy.int_inv, a, by omega, by omega, by rw [ra.length]; exact line_of hl.2.2, fun p hp => r p _ hp (.lst (ra.rep _))⟩
    · cases g
  · cases g
def gMul : D → D → Option R := orE (iI okMul fun i j => i * j) lstRep
def rMulA (K : PySem.W.Frag) : R2 := fun x y H Q => rI (fun i j => okMul i j = true) (fun i j => .int (i * j)) x y H Q ∨ rRepR K x y H Q
theorem o_mul : OpR X (binaryOp .Mult) (rMulA X.K) := OpR.or op_mulA op_repR
theorem s_mul : OpSound K gMul (rMulA K) := OpSound.or (sd_I fun _ _ h => h) sd_lstRep
def gDiv : D → D → Option R := iI (fun _ j => okDiv j) fun i j => i / j
theorem s_div : OpSound K gDiv (rI CDivW fun i j => .int (i / j)) := sd_I fun _ _ h => okDiv_ok h
def gMod : D → D → Option R := iI (fun _ j => decide (0 < j)) fun i j => i % j
theorem s_mod : OpSound K gMod (rI (fun _ j => 0 < j) fun i j => .int (i % j)) := sd_I fun _ _ h => of_decide_eq_true h
def gPow : D → D → Option R := iI okPow fun i j => i ^ j.toNat
theorem o_pow : OpR X (binaryOp .Pow) (rI (fun i j => okPow i j = true) fun i j => .int (i ^ j.toNat)) := opI fun _ _ _ _ _ _ _ hc q => pow_int (okPow_ok hc).1 (okPow_ok hc).2 q
theorem s_pow : OpSound K gPow (rI (fun i j => okPow i j = true) fun i j => .int (i ^ j.toNat)) := sd_I fun _ _ h => h
def gShl : D → D → Option R := iI okShl shlI
theorem s_shl : OpSound K gShl (rI CShl fun i j => .int (i * 2 ^ j.toNat)) := by
  have e : (fun i j : Int => V.int (i * 2 ^ j.toNat)) = fun i j => V.int (shlI i j) := funext fun i => funext fun j => by rw [shlI_eq]
  rw [e]
  exact sd_I fun _ _ h => okShl_ok h
def gShr : D → D → Option R := iI (fun _ j => decide (0 ≤ j)) shrI
theorem s_shr : OpSound K gShr (rI (fun _ j => 0 ≤ j) fun i j => .int (i / 2 ^ j.toNat)) := by
  have e : (fun i j : Int => V.int (i / 2 ^ j.toNat)) = fun i j => V.int (shrI i j) := funext fun i => funext fun j => by rw [shrI_eq]
  rw [e]
  exact sd_I fun _ _ h => of_decide_eq_true h
def gAnd : D → D → Option R := iI (fun _ _ => true) band
theorem s_and : OpSound K gAnd (rI0 fun i j => .int (Builtin.bitAnd i j)) := sd_I0
def gOr : D → D → Option R := iI (fun _ _ => true) bor
theorem s_or : OpSound K gOr (rI0 fun i j => .int (Builtin.bitOr i j)) := sd_I0
def gXor : D → D → Option R := iI (fun _ _ => true) bxor
theorem s_xor : OpSound K gXor (rI0 fun i j => .int (Builtin.bitXor i j)) := sd_I0
def gNeg : D → Option R
  | .int i => some (.fz (.int (-i)))
  | _ => none
def gInv : D → Option R
  | .int i => some (.fz (.int (bnot i)))
  | _ => none
theorem s_neg : UnSound K gNeg (rU fun i => .int (-i)) := by
  intro G H x v z Q e hx g r
  unfold gNeg at g
  split at g
  · cases g; exact ⟨_, hx.int_inv, r _ .int⟩
  · cases g
theorem s_inv : UnSound K gInv (rU fun i => .int (Builtin.bitNot i)) := by
  intro G H x v z Q e hx g r
  unfold gInv at g
  split at g
  · cases g; exact ⟨_, hx.int_inv, r _ .int⟩
  · cases g
def gLt : D → D → Option R := iB fun i j => decide (i < j)
def gLe : D → D → Option R := iB fun i j => decide (i ≤ j)
def gGt : D → D → Option R := iB fun i j => decide (j < i)
def gGe : D → D → Option R := iB fun i j => decide (j ≤ i)
theorem s_lt : OpSound K gLt (rI0 fun i j => .bl (decide (i < j))) := sd_B0
theorem s_le : OpSound K gLe (rI0 fun i j => .bl (decide (i ≤ j))) := sd_B0
theorem s_gt : OpSound K gGt (rI0 fun i j => .bl (decide (j < i))) := sd_B0
theorem s_ge : OpSound K gGe (rI0 fun i j => .bl (decide (j ≤ i))) := sd_B0
mutual
def py : D → Option PyData
  | .non => some .none
  | .bl b => some (.bool b)
  | .int i => some (.int i)
  | .str x => some (.str x)
  | .lst ds => (pys ds).map .list
  | .tup ds => (pys ds).map .tuple
  | _ => none
def pys : List D → Option (List PyData)
  | [] => some []
  | d :: ds => match py d, pys ds with
    | some p, some ps => some (p :: ps)
    | _, _ => none
end
mutual
theorem Rep.dp {H : Hp} : ∀ {d : D} {v : V} {p : PyData}, Rep K H d v → py d = some p → Dp K H v p
  | .non, _, _, h, e => by cases h; cases e; exact .non
  | .bl b, _, _, h, e => by cases h; cases e; exact .bl b
  | .int i, _, _, h, e => by cases h; cases e; exact .int i
  | .str x, _, _, h, e => by cases h; cases e; exact .str x
  | .lst ds, _, p, h, e => by
    cases h with
    | lst a r =>
    unfold py at e
    cases h2 : pys ds with
    | none => rw [h2] at e; cases e
    | some ps => rw [h2] at e; cases e; exact .lst a.sql (Reps.dp r h2)
  | .tup ds, _, p, h, e => by
    cases h with
    | tup a r =>
    unfold py at e
    cases h2 : pys ds with
    | none => rw [h2] at e; cases e
    | some ps => rw [h2] at e; cases e; exact .tup a (Reps.dp r h2)
  | .dct _, _, _, _, e => by simp [py] at e
  | .ins _ _, _, _, _, e => by simp [py] at e
  | .ref _, _, _, _, e => by simp [py] at e
  | .ty _, _, _, _, e => by simp [py] at e
theorem Reps.dp {H : Hp} : ∀ {ds : List D} {vs : List V} {ps : List PyData}, Reps K H ds vs → pys ds = some ps → DpAll K H vs ps
  | [], _, _, h, e => by cases h; cases e; exact .nil
  | d :: ds, _, _, h, e => by
    cases h with
    | cons a r =>
    unfold pys at e
    cases h1 : py d with
    | none => simp only [h1] at e; cases e
    | some p =>
      cases h2 : pys ds with
      | none => simp only [h1, h2] at e; cases e
      | some ps => simp only [h1, h2] at e; cases e; exact .cons (Rep.dp a h1) (Reps.dp r h2)
end
def eqD (x y : D) : Option Bool := match py x, py y with
  | some p, some q => if (SeqAt.shaped p && SeqAt.shaped q) = true then some (PyData.eqv p q) else none
  | _, _ => none
def gEq (x y : D) : Option R := (eqD x y).map fun b => .fz (.bl b)
def gNe (x y : D) : Option R := (eqD x y).map fun b => .fz (.bl (!b))
theorem eqD_inv {G H : Hp} {x y : D} {v u : V} {b : Bool} (e : Ex G H) (hx : Top K G H x v) (hy : Top K G H y u) (h : eqD x y = some b) : ∃ p q, Dp K H v p ∧ Dp K H u q ∧ SeqAt.shaped p = true ∧ SeqAt.shaped q = true ∧ PyData.eqv p q = b := by
  unfold eqD at h
  split at h
  · rename_i p q e1 e2
    split at h
    · rename_i hs
      cases h
      have hs' := Bool.and_eq_true_iff.mp hs
      exact ⟨p, q, (hx.rep e).dp e1, (hy.rep e).dp e2, hs'.1, hs'.2, rfl⟩
    · cases h
  · cases h
theorem s_eq : OpSound K gEq (rEqD K) := by
  intro G H x y v u z Q e hx hy g r
  unfold gEq at g
  cases h : eqD x y with
  | none => rw [h] at g; cases g
  | some b =>
    rw [h] at g; cases g
    obtain ⟨p, q, d1, d2, s1, s2, eb⟩ := eqD_inv e hx hy h
    exact ⟨p, q, d1, d2, s1, s2, by rw [eb]; exact r _ .bl⟩
theorem s_ne : OpSound K gNe (rNeD K) := by
  intro G H x y v u z Q e hx hy g r
  unfold gNe at g
  cases h : eqD x y with
  | none => rw [h] at g; cases g
  | some b =>
    rw [h] at g; cases g
    obtain ⟨p, q, d1, d2, s1, s2, eb⟩ := eqD_inv e hx hy h
    exact ⟨p, q, d1, d2, s1, s2, by rw [eb]; exact r _ .bl⟩
def isNon : D → Bool
  | .non => true
  | _ => false
def gIsN (x y : D) : Option R := if isNon y = true then some (.fz (.bl (isNon x))) else none
def gNotN (x y : D) : Option R := if isNon y = true then some (.fz (.bl (!isNon x))) else none
theorem isNon_top {G H : Hp} {x : D} {v : V} (h : Top K G H x v) : decide (v = .non) = isNon x := by
  cases h <;> simp [isNon]
theorem s_isN : OpSound K gIsN (fun x y H Q => y = .non ∧ Q (.bl (decide (x = .non))) H) := by
  intro G H x y v u z Q e hx hy g r
  unfold gIsN at g
  split at g
  · rename_i hn
    cases g
    rw [isNon_top hx]
    exact ⟨by rw [← isNon_top hy] at hn; exact of_decide_eq_true hn, r _ .bl⟩
  · cases g
theorem s_notN : OpSound K gNotN (fun x y H Q => y = .non ∧ Q (.bl (!decide (x = .non))) H) := by
  intro G H x y v u z Q e hx hy g r
  unfold gNotN at g
  split at g
  · rename_i hn
    cases g
    rw [isNon_top hx]
    exact ⟨by rw [← isNon_top hy] at hn; exact of_decide_eq_true hn, r _ .bl⟩
  · cases g
end
end DN
set_option maxHeartbeats 2000000
namespace DN
open PySem PySem.Spec PyProof.Rows L2
open Evl (Ex)
inductive Fl where
  | nx | rt (r : R) | bk | ct
/-- the slots outside S are as they were -/
def Stay (S : List Nat) (σ σ' : L2.St) : Prop := σ'.length = σ.length ∧ ∀ i, i ∉ S → σ'[i]? = σ[i]?
theorem Stay.refl {S : List Nat} {σ : L2.St} : Stay S σ σ := ⟨rfl, fun _ _ => rfl⟩
theorem Stay.trans {S T : List Nat} {σ σ1 σ2 : L2.St} (a : Stay S σ σ1) (b : Stay T σ1 σ2) : Stay (S ++ T) σ σ2 :=
  ⟨b.1.trans a.1, fun i h => (b.2 i fun z => h (List.mem_append_right _ z)).trans (a.2 i fun z => h (List.mem_append_left _ z))⟩
theorem Stay.mono {S T : List Nat} {σ σ' : L2.St} (a : Stay S σ σ') (h : ∀ i, i ∈ S → i ∈ T) : Stay T σ σ' := ⟨a.1, fun i z => a.2 i fun q => z (h i q)⟩
theorem Stay.one {σ : L2.St} {i : Nat} {v : Option V} : Stay [i] σ (σ.set i v) := ⟨List.length_set, fun j h => by
  rw [List.getElem?_set]
  by_cases e : i = j
  · exact absurd (by rw [e]; exact List.mem_cons_self) h
  · rw [if_neg e]⟩
def PostS (K : PySem.W.Frag) (Wx : WX) (L : Lent) (G B : Hp) (σ : L2.St) (S : List Nat) (o : O Fl) (D : Ends) : Prop := match o with
  | .ok ρ' .nx => ∀ G' B' H' σ', Grow G B G' B' → Stay S σ σ' → OkS K L G' B' H' σ' ρ' → D.nx σ' H'
  | .ok ρ' .bk => ∀ G' B' H' σ', Grow G B G' B' → Stay S σ σ' → OkS K L G' B' H' σ' ρ' → D.bk σ' H'
  | .ok ρ' .ct => ∀ G' B' H' σ', Grow G B G' B' → Stay S σ σ' → OkS K L G' B' H' σ' ρ' → D.ct σ' H'
  | .ok ρ' (.rt r) => ∀ G' B' H' σ' v, Grow G B G' B' → Stay S σ σ' → OkVs K L G' H' σ' ρ' B' [r] [v] → D.rt v H'
  | .er ρ' e => ∀ G' B' H' σ' c d, Grow G B G' B' → Stay S σ σ' → OkS K L G' B' H' σ' ρ' → OkEr K G' e c d → Wx c d σ' H'
  | .un => False
def SemS (X : Cx) (Wx : WX) (S : List Nat) (t : TS) (f : Env → O Fl) : Prop := ∀ L G B H σ ρ D, OkS X.K L G B H σ ρ → PostS X.K Wx L G B σ S (f ρ) D → t D σ H
def DS (X : Cx) (Wx : WX) (S : List Nat) (st : Stmt) (t : TS) (f : Env → O Fl) : Prop := PS X st t ∧ SemS X Wx S t f
def DSs (X : Cx) (Wx : WX) (S : List Nat) (st : List Stmt) (t : TS) (f : Env → O Fl) : Prop := PSs X st t ∧ SemS X Wx S t f
section
variable {K : PySem.W.Frag} {Wx : WX} {L : Lent} {G G' B B' H : Hp} {σ σ' : L2.St} {ρ : Env} {S T : List Nat} {o : O Fl} {D D' : Ends}
theorem PostS.step (p : PostS K Wx L G B σ (S ++ T) o D) (g : Grow G B G' B') (s : Stay S σ σ') : PostS K Wx L G' B' σ' T o D := by
  cases o with
  | un => exact p
  | er ρ e => exact fun G2 B2 H2 σ2 c d g2 s2 => p G2 B2 H2 σ2 c d (g.trans g2) (s.trans s2)
  | ok ρ fl =>
    cases fl with
    | nx => exact fun G2 B2 H2 σ2 g2 s2 => p G2 B2 H2 σ2 (g.trans g2) (s.trans s2)
    | bk => exact fun G2 B2 H2 σ2 g2 s2 => p G2 B2 H2 σ2 (g.trans g2) (s.trans s2)
    | ct => exact fun G2 B2 H2 σ2 g2 s2 => p G2 B2 H2 σ2 (g.trans g2) (s.trans s2)
    | rt r => exact fun G2 B2 H2 σ2 v g2 s2 => p G2 B2 H2 σ2 v (g.trans g2) (s.trans s2)
theorem PostS.grow (p : PostS K Wx L G B σ S o D) (g : Grow G B G' B') : PostS K Wx L G' B' σ S o D := PostS.step (S := []) p g .refl
theorem PostS.sub (p : PostS K Wx L G B σ T o D) (h : ∀ i, i ∈ S → i ∈ T) : PostS K Wx L G B σ S o D := by
  cases o with
  | un => exact p
  | er ρ e => exact fun G2 B2 H2 σ2 c d g2 s2 => p G2 B2 H2 σ2 c d g2 (s2.mono h)
  | ok ρ fl =>
    cases fl with
    | nx => exact fun G2 B2 H2 σ2 g2 s2 => p G2 B2 H2 σ2 g2 (s2.mono h)
    | bk => exact fun G2 B2 H2 σ2 g2 s2 => p G2 B2 H2 σ2 g2 (s2.mono h)
    | ct => exact fun G2 B2 H2 σ2 g2 s2 => p G2 B2 H2 σ2 g2 (s2.mono h)
    | rt r => exact fun G2 B2 H2 σ2 v g2 s2 => p G2 B2 H2 σ2 v g2 (s2.mono h)
/-- an expression, then what its value does -/
theorem PostS.bind {α : Type} {o : O α} {f : Env → α → O Fl} (p : PostS K Wx L G B σ S (o.bind f) D) : Post K Wx L G B σ o fun ρ' a G' B' H' => PostS K Wx L G' B' σ S (f ρ' a) D := by
  cases o with
  | un => exact p
  | ok ρ a => exact fun G2 B2 H2 g => PostS.grow (show PostS K Wx L G B σ S (f ρ a) D from p) g
  | er ρ e => exact fun G2 B2 H2 c d g s => p G2 B2 H2 σ c d g .refl s
end
section
variable {K : PySem.W.Frag} {L : Lent} {G G' B B' H : Hp} {σ σ' : L2.St} {ρ : Env} {i : Nat} {d : D} {v : V} {l : Addr} {ob : HO} {rs : List R} {vs : List V}
theorem OkS.setFz (s : OkS K L G B H σ ρ) (r : Rep K G d v) : OkS K L G B H (σ.set i (some v)) (ρ.set i (.fz d)) := by
  have hl := s.len
  refine ⟨s.gb, s.lb, s.bh, by simp [hl], fun j d' q => ?_, fun j d' q => ?_, fun j d' q => ?_, fun j k dj dk a q1 q2 w1 w2 => ?_⟩
  · rw [List.getElem?_set] at q
    by_cases e : i = j
    · subst e
      rw [if_pos rfl] at q
      split at q
      · rename_i hi
        cases q
        exact ⟨v, by rw [List.getElem?_set, if_pos rfl, if_pos (by omega)], r⟩
      · cases q
    · rw [if_neg e] at q
      rw [List.getElem?_set, if_neg e]
      exact s.fz j d' q
  · rw [List.getElem?_set] at q
    by_cases e : i = j
    · subst e
      rw [if_pos rfl] at q
      split at q <;> cases q
    · rw [if_neg e] at q
      rw [List.getElem?_set, if_neg e]
      exact s.ow j d' q
  · rw [List.getElem?_set] at q
    by_cases e : i = j
    · subst e
      rw [if_pos rfl] at q
      split at q <;> cases q
    · rw [if_neg e] at q
      rw [List.getElem?_set, if_neg e]
      exact s.ln j d' q
  · rw [List.getElem?_set] at q1 q2 w1 w2
    by_cases e : i = j
    · subst e
      rw [if_pos rfl] at q1
      split at q1 <;> cases q1
    · by_cases e2 : i = k
      · subst e2
        rw [if_pos rfl] at q2
        split at q2 <;> cases q2
      · rw [if_neg e] at q1 w1
        rw [if_neg e2] at q2 w2
        exact s.dis j k dj dk a q1 q2 w1 w2
theorem OkS.setOwn (s : OkS K L G (upd B l ob) H σ ρ) (hg : G l = none) (hl : NL L l) (hb : B l = none) (r : RepO K G d ob) : OkS K L G B H (σ.set i (some (.ref l))) (ρ.set i (.own d)) := by
  have hlen := s.len
  have other : ∀ (j : Nat) dj a, ρ[j]? = some (.own dj) → σ[j]? = some (some (.ref a)) → a ≠ l ∧ B a = none := fun j dj a h1 h2 => by
    obtain ⟨m, o, a1, a2, _⟩ := s.ow j dj h1
    rw [h2] at a1; cases a1
    have hm : a ≠ l := fun z => by subst z; rw [upd_same] at a2; cases a2
    rw [upd_ne hm] at a2
    exact ⟨hm, a2⟩
  refine ⟨ex_of_upd s.gb hg, s.lb.of_upd hl, fun b u q => s.bh b u (by rw [upd_ne (ne_of_none q hb)]; exact q), by simp [hlen], fun j d' q => ?_, fun j d' q => ?_, fun j d' q => ?_, fun j k dj dk a q1 q2 w1 w2 => ?_⟩
  · rw [List.getElem?_set] at q
    by_cases e : i = j
    · subst e
      rw [if_pos rfl] at q
      split at q <;> cases q
    · rw [if_neg e] at q
      rw [List.getElem?_set, if_neg e]
      exact s.fz j d' q
  · rw [List.getElem?_set] at q
    by_cases e : i = j
    · subst e
      rw [if_pos rfl] at q
      split at q
      · rename_i hi
        cases q
        exact ⟨l, ob, by rw [List.getElem?_set, if_pos rfl, if_pos (by omega)], hb, s.bh _ _ upd_same, r⟩
      · cases q
    · rw [if_neg e] at q
      rw [List.getElem?_set, if_neg e]
      obtain ⟨m, o, a1, a2, a3, a4⟩ := s.ow j d' q
      exact ⟨m, o, a1, (other j d' m q a1).2, a3, a4⟩
  · rw [List.getElem?_set] at q
    by_cases e : i = j
    · subst e
      rw [if_pos rfl] at q
      split at q <;> cases q
    · rw [if_neg e] at q
      rw [List.getElem?_set, if_neg e]
      exact s.ln j d' q
  · rw [List.getElem?_set] at q1 q2 w1 w2
    by_cases e : i = j
    · by_cases e2 : i = k
      · exact e.symm.trans e2
      · subst e
        rw [if_pos rfl] at w1
        split at w1
        · cases w1
          rw [if_neg e2] at q2 w2
          exact absurd rfl (other k dk l q2 w2).1
        · cases w1
    · by_cases e2 : i = k
      · subst e2
        rw [if_pos rfl] at w2
        split at w2
        · cases w2
          rw [if_neg e] at q1 w1
          exact absurd rfl (other j dj l q1 w1).1
        · cases w2
      · rw [if_neg e] at q1 w1
        rw [if_neg e2] at q2 w2
        exact s.dis j k dj dk a q1 q2 w1 w2
/-- nothing of a slot is at hand -/
def noBor : R → Bool
  | .fz _ => true
  | .own _ => true
  | _ => false
theorem OkVs.setFz (h : OkVs K L G H σ ρ B rs vs) (hn : ∀ r ∈ rs, noBor r = true) (r : Rep K G d v) : OkVs K L G H (σ.set i (some v)) (ρ.set i (.fz d)) B rs vs := by
  induction h with
  | nil s => exact .nil (s.setFz r)
  | fz a _ ih => exact .fz a (ih fun r hr => hn r (List.mem_cons_of_mem _ hr))
  | own g l b a _ ih => exact .own g l b a (ih fun r hr => hn r (List.mem_cons_of_mem _ hr))
  | bor _ _ _ => exact absurd (hn _ List.mem_cons_self) (by simp [noBor])
  | tp _ _ _ _ _ _ => exact absurd (hn _ List.mem_cons_self) (by simp [noBor])
theorem OkVs.setOwn (h : OkVs K L G H σ ρ B rs vs) (hn : ∀ r ∈ rs, noBor r = true) : ∀ {B0 : Hp}, B = upd B0 l ob → G l = none → NL L l → B0 l = none → RepO K G d ob →
    OkVs K L G H (σ.set i (some (.ref l))) (ρ.set i (.own d)) B0 rs vs := by
  induction h with
  | nil s => intro B0 e hg hl hb r; subst e; exact .nil (s.setOwn hg hl hb r)
  | fz a _ ih => intro B0 e hg hl hb r; exact .fz a (ih (fun r hr => hn r (List.mem_cons_of_mem _ hr)) e hg hl hb r)
  | @own B l' o' d' rs vs g0 l0 b a h ih =>
    intro B0 e hg hl hb r
    subst e
    have hne : l' ≠ l := fun z => by subst z; rw [upd_same] at b; cases b
    rw [upd_ne hne] at b
    exact .own g0 l0 b a (ih (fun r hr => hn r (List.mem_cons_of_mem _ hr)) (upd_comm (Ne.symm hne)) hg hl (by rw [upd_ne (Ne.symm hne)]; exact hb) r)
  | bor _ _ _ => exact absurd (hn _ List.mem_cons_self) (by simp [noBor])
  | tp _ _ _ _ _ _ => exact absurd (hn _ List.mem_cons_self) (by simp [noBor])
end
/-- x = r -/
def storeE (i : Nat) : Option (Env × D) → O Unit
  | some (ρ', d) => .ok (ρ'.set i (.fz d)) ()
  | none => .un
/-- x = x keeps what x has -/
def store (i : Nat) (ρ : Env) (r : R) : O Unit := match r with
  | .fz d => .ok (ρ.set i (.fz d)) ()
  | .own d => .ok (ρ.set i (.own d)) ()
  | .bor j => if j = i then .ok ρ () else storeE i (escR ρ (.bor j))
  | .tp qs => storeE i (escR ρ (.tp qs))
section
variable {X : Cx} {K : PySem.W.Frag} {Wx : WX} {L : Lent} {G G' B B' H : Hp} {σ σ' : L2.St} {ρ ρ' : Env} {i : Nat} {d : D} {v : V} {r : R}
theorem set_same {σ : L2.St} (h : σ[i]? = some (some v)) : σ.set i (some v) = σ := by
  apply List.ext_getElem?
  intro j
  rw [List.getElem?_set]
  split
  · rename_i e
    subst e
    split
    · exact h.symm
    · rename_i q
      rw [List.getElem?_eq_none (by omega)] at h
      cases h
  · rfl
theorem OkVs.borI {j : Nat} (k : OkVs K L G H σ ρ B [.bor j] [v]) : σ[j]? = some (some v) ∧ OkS K L G B H σ ρ := by
  cases k with
  | bor h k => exact ⟨h, k.state⟩
theorem store_ok {u : Unit} (k : OkVs K L G H σ ρ B [r] [v]) (e : store i ρ r = .ok ρ' u) : ∃ G' B', Grow G B G' B' ∧ OkS K L G' B' H (σ.set i (some v)) ρ' := by
  cases r with
  | fz d =>
    cases e
    obtain ⟨a, b⟩ := k.fzI
    exact ⟨G, B, .refl, b.state.setFz a⟩
  | own d =>
    cases e
    cases k with
    | own g l b a k => exact ⟨G, B, .refl, k.state.setOwn g l b a⟩
  | bor j =>
    unfold store at e
    simp only at e
    split at e
    · rename_i hj
      subst hj
      cases e
      obtain ⟨h1, h2⟩ := k.borI
      exact ⟨G, B, .refl, by rw [set_same h1]; exact h2⟩
    · cases q : escR ρ (.bor j) with
      | none => rw [q] at e; cases e
      | some x =>
        obtain ⟨ρ1, d⟩ := x
        rw [q] at e
        cases e
        obtain ⟨G', B', g, k'⟩ := k.esc q
        obtain ⟨a, b⟩ := k'.fzI
        exact ⟨G', B', g, b.state.setFz a⟩
  | tp qs =>
    unfold store at e
    simp only at e
    cases q : escR ρ (.tp qs) with
    | none => rw [q] at e; cases e
    | some x =>
      obtain ⟨ρ1, d⟩ := x
      rw [q] at e
      cases e
      obtain ⟨G', B', g, k'⟩ := k.esc q
      obtain ⟨a, b⟩ := k'.fzI
      exact ⟨G', B', g, b.state.setFz a⟩
theorem storeE_noer {e : Er} {x : Option (Env × D)} : storeE i x ≠ .er ρ' e := by
  intro h
  unfold storeE at h
  split at h <;> cases h
theorem store_noer {e : Er} : store i ρ r ≠ .er ρ' e := by
  intro h
  unfold store at h
  split at h
  · cases h
  · cases h
  · split at h
    · cases h
    · exact storeE_noer h
  · exact storeE_noer h
variable {e : Expr} {f h : Env → O R} {pos : Pos} {st : Stmt} {rest : List Stmt} {S T : List Nat} {fs gs : Env → O Fl} {ta : TE} {tta : TT} {t1 t2 : TS} {tg0 : TG}
def dNext : Env → O Fl := fun ρ => .ok ρ .nx
def dSeq (f g : Env → O Fl) : Env → O Fl := fun ρ => (f ρ).bind fun ρ fl => match fl with
  | .nx => g ρ
  | fl => .ok ρ fl
theorem sem_seq {t u : TS} (h1 : SemS X Wx S t fs) (h2 : SemS X Wx T u gs) : SemS X Wx (S ++ T) (tSeq t u) (dSeq fs gs) := fun L G B H σ ρ D s p => by
  refine h1 L G B H σ ρ _ s ?_
  unfold dSeq at p
  cases ef : fs ρ with
  | un => rw [ef] at p; exact p
  | er ρ1 e1 => rw [ef] at p; exact PostS.sub (T := S ++ T) (o := O.er ρ1 e1) p fun i hi => List.mem_append_left _ hi
  | ok ρ1 fl =>
    rw [ef] at p
    cases fl with
    | nx => exact fun G' B' H' σ' g st s' => h2 L G' B' H' σ' ρ1 D s' (PostS.step p g st)
    | bk => exact fun G2 B2 H2 σ2 g2 s2 => p G2 B2 H2 σ2 g2 (s2.mono fun i hi => List.mem_append_left _ hi)
    | ct => exact fun G2 B2 H2 σ2 g2 s2 => p G2 B2 H2 σ2 g2 (s2.mono fun i hi => List.mem_append_left _ hi)
    | rt r => exact fun G2 B2 H2 σ2 v g2 s2 => p G2 B2 H2 σ2 v g2 (s2.mono fun i hi => List.mem_append_left _ hi)
theorem dss_nil : DSs X Wx [] [] tNext dNext := ⟨pss_nil, fun L G B H σ ρ D s p => p G B H σ .refl .refl s⟩
theorem dss_cons (h1 : DS X Wx S st t1 fs) (h2 : DSs X Wx T rest t2 gs) : DSs X Wx (S ++ T) (st :: rest) (tSeq t1 t2) (dSeq fs gs) :=
  ⟨pss_cons h1.1 h2.1, sem_seq h1.2 h2.2⟩
theorem dss_one (h1 : DS X Wx S st t1 fs) : DSs X Wx S [st] t1 fs := ⟨pss_one h1.1, h1.2⟩
def dRet (f : Env → O R) : Env → O Fl := fun ρ => (f ρ).bind fun ρ r => .ok ρ (.rt r)
theorem ds_ret (he : DE X Wx e ta f) : DS X Wx [] (.Return (some e) pos) (tRet ta) (dRet f) := by
  obtain ⟨pt, se⟩ := he
  exact ⟨ps_ret pt, fun L G B H σ ρ D s p => se L G B H σ ρ _ s ((PostS.bind p).imp fun ρ1 r1 G1 B1 H1 _ q v k => q G1 B1 H1 σ v .refl .refl k)⟩
def dDrop (f : Env → O R) : Env → O Fl := fun ρ => (f ρ).bind fun ρ _ => .ok ρ .nx
theorem ds_expr (he : DE X Wx e ta f) (hs : swapsWith e none pos.line X.env = pure false := by rfl) : DS X Wx [] (.Expr e pos) (tDrop ta) (dDrop f) := by
  obtain ⟨pt, se⟩ := he
  exact ⟨ps_expr pt hs, fun L G B H σ ρ D s p => se L G B H σ ρ _ s ((PostS.bind p).imp fun ρ1 r1 G1 B1 H1 _ q v k => q G1 B1 H1 σ .refl .refl k.state)⟩
def dIfS (c : Env → O Bool) (f g : Env → O Fl) : Env → O Fl := fun ρ => (c ρ).bind fun ρ b => if b = true then f ρ else g ρ
theorem ds_if {c : Expr} {a b : List Stmt} {ft : Env → O Bool} (hc : DT X Wx c tta ft) (ha : DSs X Wx S a t1 fs) (hb : DSs X Wx T b t2 gs) : DS X Wx (S ++ T) (.If c a b pos) (tIfS tta t1 t2) (dIfS ft fs gs) := by
  obtain ⟨pt, sc⟩ := hc
  obtain ⟨pu, sa⟩ := ha
  obtain ⟨pw, sb⟩ := hb
  refine ⟨ps_if pt pu pw, fun L G B H σ ρ D s p => sc L G B H σ ρ _ s ((PostS.bind p).imp fun ρ1 b1 G1 B1 H1 _ q s1 => ?_)⟩
  cases b1 with
  | true => exact sa L G1 B1 H1 σ ρ1 D s1 (PostS.sub (T := S ++ T) q fun i hi => List.mem_append_left _ hi)
  | false => exact sb L G1 B1 H1 σ ρ1 D s1 (PostS.sub (T := S ++ T) q fun i hi => List.mem_append_right _ hi)
/-- a target takes what is at hand -/
def SemG (X : Cx) (S : List Nat) (t : TG) (g : Env → R → O Unit) : Prop := ∀ L G B H σ ρ r v (Q : L2.St → Hp → Prop) ρ' u, OkVs X.K L G H σ ρ B [r] [v] → g ρ r = .ok ρ' u →
  (∀ G' B' σ', Grow G B G' B' → Stay S σ σ' → OkS X.K L G' B' H σ' ρ' → Q σ' H) → t v σ H Q
def DG (X : Cx) (S : List Nat) (tg : Expr) (t : TG) (g : Env → R → O Unit) : Prop := PG X tg t ∧ SemG X S t g ∧ ∀ ρ r ρ' e, g ρ r ≠ .er ρ' e
theorem dg_name {x : Str} (i : Nat) (hN : X.N.Nodup) (hi : X.N[i]? = some x := by rfl) (hx : Loc X.env.scope x := by first | exact Or.inl rfl | exact Or.inr rfl)
    (hf : X.fn x = true ∨ X.env.scope.names.lookup x = some .local := by first | exact .inl rfl | exact .inr rfl) : DG X [i] (.Name x pos) (gName i) (store i) := by
  refine ⟨pg_name hN hi hx hf, fun L G B H σ ρ r v Q ρ' u k e q => ?_, fun ρ r ρ' e => store_noer⟩
  obtain ⟨G', B', g, s⟩ := store_ok (i := i) k e
  exact q G' B' _ g Stay.one s
def dAsg (g : Env → R → O Unit) (f : Env → O R) : Env → O Fl := fun ρ => (f ρ).bind fun ρ r => (g ρ r).bind fun ρ _ => .ok ρ .nx
theorem asg_end {g : Env → R → O Unit} {t : TG} {D : Ends} (hg : SemG X S t g) (hn : ∀ ρ r ρ' e, g ρ r ≠ .er ρ' e) (k : OkVs X.K L G H σ ρ B [r] [v])
    (p : PostS X.K Wx L G B σ S ((g ρ r).bind fun ρ _ => .ok ρ .nx) D) : t v σ H D.nx := by
  cases e : g ρ r with
  | un => rw [e] at p; exact p.elim
  | er ρ1 e1 => exact (hn _ _ _ _ e).elim
  | ok ρ1 u =>
    rw [e] at p
    exact hg L G B H σ ρ r v _ ρ1 u k e fun G' B' σ' gr st s => p G' B' H σ' gr st s
theorem ds_asg {tg : Expr} {g : Env → R → O Unit} (hg : DG X S tg tg0 g) (he : DE X Wx e ta f) (hs : swapsWithSole [tg] e pos.line X.env = pure false := by rfl) (hw : swappedStores [tg] e X.env = pure none := by rfl)
    (h1 : (assignEach [tg] X.env).map (·.2) = [assign tg X.env] := by rfl) : DS X Wx S (.Assign [tg] e pos) (tAsg ta tg0) (dAsg g f) := by
  obtain ⟨pt, se⟩ := he
  obtain ⟨pu, sg, hn⟩ := hg
  exact ⟨ps_asg pt pu hs hw h1, fun L G B H σ ρ D s p => se L G B H σ ρ _ s ((PostS.bind p).imp fun ρ1 r1 G1 B1 H1 _ q v k => asg_end sg hn k q)⟩
theorem ds_set {x : Str} {pos' : Pos} (i : Nat) (he : DE X Wx e ta f) (hN : X.N.Nodup) (hi : X.N[i]? = some x := by rfl) (hx : Loc X.env.scope x := by first | exact Or.inl rfl | exact Or.inr rfl)
    (hs : swapsWith e (some (.Name x pos')) pos.line X.env = pure false := by rfl) (hf : X.fn x = true ∨ X.env.scope.names.lookup x = some .local := by first | exact .inl rfl | exact .inr rfl) :
    DS X Wx [i] (.Assign [.Name x pos'] e pos) (tAsg ta (gName i)) (dAsg (store i) f) := by
  obtain ⟨pt, se⟩ := he
  obtain ⟨pu, sg, hn⟩ := dg_name (pos := pos') i hN hi hx hf
  refine ⟨ps_set hN hi hx pt hs hf, fun L G B H σ ρ D s p => se L G B H σ ρ _ s ((PostS.bind p).imp fun ρ1 r1 G1 B1 H1 _ q v k => ?_)⟩
  cases e : store i ρ1 r1 with
  | un => rw [e] at q; exact q.elim
  | er ρ1 e1 => exact (store_noer e).elim
  | ok ρ2 u =>
    rw [e] at q
    obtain ⟨G', B', g, s'⟩ := store_ok (i := i) k e
    exact q G' B' H1 _ g Stay.one s'
/-- things of slots and tuples are frozen, the rest stays -/
def settle (ρ : Env) : List R → Option (Env × List R)
  | [] => some (ρ, [])
  | .fz d :: rs => (settle ρ rs).map fun x => (x.1, .fz d :: x.2)
  | .own d :: rs => (settle ρ rs).map fun x => (x.1, .own d :: x.2)
  | r :: rs => match escR ρ r with
    | some (ρ1, d) => (settle ρ1 rs).map fun x => (x.1, .fz d :: x.2)
    | none => none
theorem settle_ok : ∀ {rs rs' : List R} {vs : List V} {G B : Hp} {ρ ρ' : Env}, OkVs K L G H σ ρ B rs vs → settle ρ rs = some (ρ', rs') → ∃ G' B', Grow G B G' B' ∧ OkVs K L G' H σ ρ' B' rs' vs ∧ ∀ r ∈ rs', noBor r = true
  | [], rs', vs, G, B, ρ, ρ', k, e => by
    cases e
    exact ⟨G, B, .refl, k, by simp⟩
  | r :: rs, rs', vs, G, B, ρ, ρ', k, e => by
    have hl := k.length
    cases vs with
    | nil => simp at hl
    | cons v vs =>
      have fzc : ∀ {G1 B1 : Hp} {ρ1 : Env} {d : D}, Grow G B G1 B1 → OkVs K L G1 H σ ρ1 B1 (.fz d :: rs) (v :: vs) → (settle ρ1 rs).map (fun x => (x.1, R.fz d :: x.2)) = some (ρ', rs') →
          ∃ G' B', Grow G B G' B' ∧ OkVs K L G' H σ ρ' B' rs' (v :: vs) ∧ ∀ r ∈ rs', noBor r = true := fun {G1 B1 ρ1 d} g1 k1 e => by
        cases q : settle ρ1 rs with
        | none => rw [q] at e; cases e
        | some x =>
          rw [q] at e; cases e
          obtain ⟨a, b⟩ := k1.fzI
          obtain ⟨G2, B2, g2, k2, n2⟩ := settle_ok b (by rw [q])
          exact ⟨G2, B2, g1.trans g2, .fz (a.mono (g2.gg b.base.1)) k2, fun r hr => by
            rcases List.mem_cons.mp hr with rfl | hr
            · rfl
            · exact n2 r hr⟩
      cases r with
      | fz d => exact fzc .refl k (by simpa only [settle] using e)
      | own d =>
        simp only [settle] at e
        cases q : settle ρ rs with
        | none => rw [q] at e; cases e
        | some x =>
          rw [q] at e; cases e
          cases k with
          | @own _ l o _ _ _ g0 l0 b0 a kk =>
            obtain ⟨G2, B2, g2, k2, n2⟩ := settle_ok kk (by rw [q])
            have hl2 : B2 l = some o := g2.bb l o upd_same
            refine ⟨G2, del B2 l, ⟨ex_del g2.bb b0, fun p u hp => g2.fr p u (by rw [upd_ne (ne_of_none hp b0)]; exact hp)⟩, ?_, fun r hr => ?_⟩
            · refine .own ((g2.fr l o upd_same).trans g0) l0 del_same (a.mono (g2.gg kk.base.1)) ?_
              rw [upd_del hl2]
              exact k2
            · rcases List.mem_cons.mp hr with rfl | hr
              · rfl
              · exact n2 r hr
      | bor j =>
        simp only [settle] at e
        cases q : escR ρ (.bor j) with
        | none => simp only [q] at e; cases e
        | some x =>
          simp only [q] at e
          obtain ⟨G1, B1, g1, k1⟩ := k.esc q
          exact fzc g1 k1 e
      | tp qs =>
        simp only [settle] at e
        cases q : escR ρ (.tp qs) with
        | none => simp only [q] at e; cases e
        | some x =>
          simp only [q] at e
          obtain ⟨G1, B1, g1, k1⟩ := k.esc q
          exact fzc g1 k1 e
def slotOf : R → Sl
  | .fz d => .fz d
  | .own d => .own d
  | _ => .un
def sets (ρ : Env) : List Nat → List R → Env
  | i :: is, r :: rs => sets (ρ.set i (slotOf r)) is rs
  | _, _ => ρ
def setsV (σ : L2.St) : List Nat → List V → L2.St
  | i :: is, v :: vs => setsV (σ.set i (some v)) is vs
  | _, _ => σ
theorem sets_ok : ∀ {is : List Nat} {rs : List R} {vs : List V} {B : Hp} {σ : L2.St} {ρ : Env}, OkVs K L G H σ ρ B rs vs → (∀ r ∈ rs, noBor r = true) → is.length = rs.length → OkS K L G B H (setsV σ is vs) (sets ρ is rs)
  | [], [], vs, B, σ, ρ, k, _, _ => by cases k with | nil s => exact s
  | i :: is, r :: rs, vs, B, σ, ρ, k, n, e => by
    have hl := k.length
    cases vs with
    | nil => simp at hl
    | cons v vs =>
      have n' : ∀ r ∈ rs, noBor r = true := fun r hr => n r (List.mem_cons_of_mem _ hr)
      cases r with
      | fz d =>
        obtain ⟨a, b⟩ := k.fzI
        exact sets_ok (is := is) (b.setFz n' a) n' (by simpa using e)
      | own d =>
        cases k with
        | own g l b a k => exact sets_ok (is := is) (k.setOwn n' rfl g l b a) n' (by simpa using e)
      | bor j => exact absurd (n _ List.mem_cons_self) (by simp [noBor])
      | tp qs => exact absurd (n _ List.mem_cons_self) (by simp [noBor])
theorem setsV_stay : ∀ {is : List Nat} {vs : List V} {σ : L2.St}, Stay is σ (setsV σ is vs)
  | [], _, _ => .refl
  | i :: is, [], σ => .refl
  | i :: is, v :: vs, σ => (Stay.one (i := i)).trans (setsV_stay (is := is) (vs := vs))
/-- the parts of a tuple at hand -/
def partsR (ρ : Env) : R → Option (List R)
  | .tp rs => some rs
  | r => match useR ρ r with
    | some (.tup ds) => some (ds.map .fz)
    | some (.lst ds) => some (ds.map .fz)
    | _ => none
/-- a, b, .. = a tuple or a list of that length -/
def gSeqN (K : PySem.W.Frag) (n : Nat) (t : TGs) : TG := fun v σ H Q => ∃ a xs, v = .ref a ∧ (SqT K H a xs ∨ SqL K H a xs) ∧ xs.length = n ∧ t xs σ H Q
theorem pg_seqN {X : Cx} {pos : Pos} {es : List Expr} {k : Nat} {t : TGs} {n : Nat} (hc : X.calm = true) (h : PGs X es t)
    (hn : (assignEach es X.env).length = n := by rfl) (hst : (assignEach es X.env).findIdx? (·.1) = none := by rfl) : PG X (.Tuple es k pos) (gSeqN X.K n t) :=
  ⟨fun pins s σ H v u Q I r ⟨a, xs, e, hq, hl, q⟩ => hq.elim (fun hq => (pg_tup hc h hn hst).run pins s σ H v u Q I r ⟨a, xs, e, hq, hl, q⟩) fun hq => (pg_lst hc h hn hst).run pins s σ H v u Q I r ⟨a, xs, e, hq, hl, q⟩⟩
def storeN (is : List Nat) (ρ : Env) (r : R) : O Unit := match partsR ρ r with
  | some rs => if rs.length = is.length then (match settle ρ rs with
    | some (ρ', rs') => .ok (sets ρ' is rs') ()
    | none => .un) else .un
  | none => .un
def gNames : List Nat → TGs
  | [] => gNil
  | i :: is => gCons (gName i) (gNames is)
theorem gNames_ok : ∀ {is : List Nat} {vs : List V} {σ : L2.St} {H : Hp} {Q : L2.St → Hp → Prop}, is.length = vs.length → Q (setsV σ is vs) H → gNames is vs σ H Q
  | [], [], _, _, _, _, q => ⟨rfl, q⟩
  | i :: is, v :: vs, σ, H, Q, e, q => ⟨v, vs, rfl, gNames_ok (is := is) (by simpa using e) q⟩
theorem settle_len : ∀ {rs rs' : List R} {ρ ρ' : Env}, settle ρ rs = some (ρ', rs') → rs'.length = rs.length
  | [], _, _, _, e => by cases e; rfl
  | r :: rs, rs', ρ, ρ', e => by
    have c : ∀ {ρ1 : Env} {r' : R}, (settle ρ1 rs).map (fun x => (x.1, r' :: x.2)) = some (ρ', rs') → rs'.length = (r :: rs).length := fun {ρ1 r'} e => by
      cases q : settle ρ1 rs with
      | none => rw [q] at e; cases e
      | some x => rw [q] at e; cases e; simp [settle_len (rs := rs) (rs' := x.2) (ρ := ρ1) (ρ' := x.1) (by rw [q])]
    cases r with
    | fz d => exact c (by simpa only [settle] using e)
    | own d => exact c (by simpa only [settle] using e)
    | bor j =>
      simp only [settle] at e
      cases q : escR ρ (.bor j) with
      | none => simp only [q] at e; cases e
      | some x => simp only [q] at e; exact c e
    | tp qs =>
      simp only [settle] at e
      cases q : escR ρ (.tp qs) with
      | none => simp only [q] at e; cases e
      | some x => simp only [q] at e; exact c e
theorem parts_ok {rs : List R} (k : OkVs K L G H σ ρ B [r] [v]) (e : partsR ρ r = some rs) : ∃ a ws B', v = .ref a ∧ (SqT K H a ws ∨ SqL K H a ws) ∧ Grow G B G B' ∧ Ex B B' ∧ OkVs K L G H σ ρ B' rs ws := by
  have flat : ∀ {ds : List D}, (useR ρ r = some (.tup ds) ∨ useR ρ r = some (.lst ds)) → ∃ a ws B', v = .ref a ∧ (SqT K H a ws ∨ SqL K H a ws) ∧ Grow G B G B' ∧ Ex B B' ∧ OkVs K L G H σ ρ B' (ds.map .fz) ws := fun {ds} u => by
    rcases u with u | u
    · have t := k.use u
      cases t with
      | @tup a ds ws ha rp => exact ⟨a, ws, B, rfl, .inl ha, .refl, Ex.refl _, by simpa using OkVs.ofReps rp (.nil k.state)⟩
    · have t := k.use u
      cases t with
      | @lst a ds ws ha rp => exact ⟨a, ws, B, rfl, .inr ha.sql, .refl, Ex.refl _, by simpa using OkVs.ofReps rp (.nil k.state)⟩
  have both : ∀ {d : D} {o : Option D}, useR ρ r = o → (match o with
      | some (.tup ds) => some (ds.map R.fz)
      | some (.lst ds) => some (ds.map R.fz)
      | _ => none) = some rs → ∃ a ws B', v = .ref a ∧ (SqT K H a ws ∨ SqL K H a ws) ∧ Grow G B G B' ∧ Ex B B' ∧ OkVs K L G H σ ρ B' rs ws := fun {d o} u q => by
    split at q
    · cases q
      exact flat (.inl u)
    · cases q
      exact flat (.inr u)
    · cases q
  cases r with
  | tp qs =>
    cases e
    cases k with
    | @tp _ p _ ws _ _ g l b n k =>
      rw [List.append_nil, List.append_nil] at k
      exact ⟨p, ws, _, rfl, .inl (.of (k.base.2.2 _ _ upd_same)), ⟨Ex.new b, fun _ _ _ => rfl⟩, Ex.new b, k⟩
  | fz d => exact both (d := d) rfl (by simpa only [partsR] using e)
  | own d => exact both (d := d) rfl (by simpa only [partsR] using e)
  | bor j => exact both (d := .non) rfl (by simpa only [partsR] using e)
theorem storeN_ok {is : List Nat} {Q : L2.St → Hp → Prop} {u : Unit} {n : Nat} (hn : is.length = n) (k : OkVs K L G H σ ρ B [r] [v]) (e : storeN is ρ r = .ok ρ' u)
    (q : ∀ G' B' σ', Grow G B G' B' → Stay is σ σ' → OkS K L G' B' H σ' ρ' → Q σ' H) : gSeqN K n (gNames is) v σ H Q := by
  unfold storeN at e
  cases ep : partsR ρ r with
  | none => simp only [ep] at e; cases e
  | some rs =>
    simp only [ep] at e
    split at e
    · rename_i hl
      cases es : settle ρ rs with
      | none => simp only [es] at e; cases e
      | some x =>
        simp only [es] at e
        cases e
        obtain ⟨a, ws, B1, ev, ht, g1, _, k1⟩ := parts_ok k ep
        have lw := k1.length
        obtain ⟨G2, B2, g2, k2, n2⟩ := settle_ok k1 (by rw [es])
        refine ⟨a, ws, ev, ht, by omega, gNames_ok (by omega) (q G2 B2 _ (g1.trans g2) setsV_stay (sets_ok k2 n2 ?_))⟩
        rw [settle_len (rs := rs) (rs' := x.2) (ρ := ρ) (ρ' := x.1) (by rw [es])]
        exact hl.symm
    · cases e
/-- the names of a tuple target -/
def DGN (X : Cx) (es : List Expr) (is : List Nat) : Prop := PGs X es (gNames is)
theorem dgn_nil : DGN X [] [] := pgs_nil
theorem dgn_cons {x : Str} {es : List Expr} {is : List Nat} (i : Nat) (hN : X.N.Nodup) (h2 : DGN X es is) (hi : X.N[i]? = some x := by rfl) (hx : Loc X.env.scope x := by first | exact Or.inl rfl | exact Or.inr rfl)
    (hf : X.fn x = true ∨ X.env.scope.names.lookup x = some .local := by first | exact .inl rfl | exact .inr rfl)
    (hs : (assignEach (.Name x pos :: es) X.env).map (·.2) = assign (.Name x pos) X.env :: (assignEach es X.env).map (·.2) := by rfl) : DGN X (.Name x pos :: es) (i :: is) := pgs_cons (pg_name hN hi hx hf) h2 hs
theorem dg_tup {es : List Expr} {is : List Nat} {k n : Nat} (hc : X.calm = true) (h : DGN X es is) (hl : is.length = n := by rfl)
    (hn : (assignEach es X.env).length = n := by rfl) (hst : (assignEach es X.env).findIdx? (·.1) = none := by rfl) : DG X is (.Tuple es k pos) (gSeqN X.K n (gNames is)) (storeN is) := by
  refine ⟨pg_seqN hc h hn hst, fun L G B H σ ρ r v Q ρ' u kk e q => storeN_ok hl kk e q, fun ρ r ρ' e h => ?_⟩
  unfold storeN at h
  split at h
  · split at h
    · split at h <;> cases h
    · cases h
  · cases h
end
end DN
set_option maxHeartbeats 2000000
namespace DN
open PySem PySem.Spec PyProof.Rows L2
open Evl (Ex)
/-- J gives the items, while what stands over B0 stands -/
def Src (K : PySem.W.Frag) (L : Lent) (J : It) (items : List R) (G0 B0 : Hp) : Prop := ∃ (Gd : Hp → Prop) (Y : Nat → Hp → V → Hp → Prop), Walk J items.length Gd Y ∧ (∀ H, Ex B0 H → Gd H) ∧
  ∀ i r G B H σ ρ x H', items[i]? = some r → Grow G0 B0 G B → OkS K L G B H σ ρ → Y i H x H' → ∃ G' B', Grow G B G' B' ∧ OkVs K L G' H' σ ρ B' [r] [x]
section
variable {K : PySem.W.Frag} {L : Lent} {G B H : Hp} {ds es : List D} {vs us : List V} {a b : Addr}
theorem src_at {J : It} {Gd : Hp → Prop} (w : Walk J vs.length Gd (YAt vs)) (hg : ∀ H, Ex B H → Gd H) (r : Reps K G ds vs) (e : Ex G B) : Src K L J (ds.map .fz) G B := by
  refine ⟨Gd, YAt vs, by rw [List.length_map, ← r.length]; exact w, hg, fun i q G1 B1 H1 σ ρ x H' hi gr s y => ?_⟩
  obtain ⟨rfl, hx⟩ := y
  obtain ⟨d, hd, rd⟩ := r.getV hx
  rw [List.getElem?_map, hd] at hi
  cases hi
  exact ⟨G1, B1, .refl, .fz (rd.mono (gr.gg e)) (.nil s)⟩
theorem src_list (h : ∀ H, Ex B H → SqL K H a vs) (r : Reps K G ds vs) (e : Ex G B) : Src K L (Itl K a) (ds.map .fz) G B := src_at walk_list h r e
theorem src_tup (h : ∀ H, Ex B H → SqT K H a vs) (r : Reps K G ds vs) (e : Ex G B) : Src K L (Itt K a) (ds.map .fz) G B := src_at walk_tup h r e
theorem src_str {z : Str} : Src K L (Its z) (z.cps.toList.map fun c => .fz (.str ⟨#[c]⟩)) G B := by
  refine ⟨_, _, by rw [List.length_map, Array.length_toList]; exact walk_str, fun _ _ => trivial, fun i q G1 B1 H1 σ ρ x H' hi gr s y => ?_⟩
  obtain ⟨rfl, c, hc, rfl⟩ := y
  rw [List.getElem?_map, Array.getElem?_toList, hc] at hi
  cases hi
  exact ⟨G1, B1, .refl, .fz .str (.nil s)⟩
def rngItems (lo c : Int) (n : Nat) : List R := (List.range n).map fun (i : Nat) => .fz (.int (lo + (i : Int) * c))
theorem src_range {lo : Int} {n : Nat} : Src K L (Itr lo n) (rngItems lo 1 n) G B := by
  refine ⟨_, _, by unfold rngItems; rw [List.length_map, List.length_range]; exact walk_range, fun _ _ => trivial, fun i q G1 B1 H1 σ ρ x H' hi gr s y => ?_⟩
  obtain ⟨rfl, rfl⟩ := y
  unfold rngItems at hi
  rw [List.getElem?_map] at hi
  cases e : (List.range n)[i]? with
  | none => rw [e] at hi; cases hi
  | some j =>
    rw [e] at hi; cases hi
    obtain ⟨h1, h2⟩ := List.getElem?_eq_some_iff.mp e
    rw [List.getElem_range] at h2
    subst h2
    show ∃ G' B', Grow G1 B1 G' B' ∧ OkVs K L G' H' σ ρ B' [.fz (.int (lo + (i : Int) * 1))] [.int (lo + (i : Int))]
    rw [Int.mul_one]
    exact ⟨G1, B1, .refl, .fz .int (.nil s)⟩
/-- pairs -/
def pairR (x y : D) : R := .tp [.fz x, .fz y]
theorem src_pair {J : It} {Gd : Hp → Prop} {items : List R} {xs ys : Nat → Option V} (w : Walk J items.length Gd (YPair xs ys)) (hg : ∀ H, Ex B H → Gd H) (e : Ex G B)
    (hi : ∀ i r x y, items[i]? = some r → xs i = some x → ys i = some y → ∃ d1 d2, r = pairR d1 d2 ∧ Rep K G d1 x ∧ Rep K G d2 y) : Src K L J items G B := by
  refine ⟨Gd, _, w, hg, fun i q G1 B1 H1 σ ρ x H' h1 gr s y => ?_⟩
  obtain ⟨T, u, v, rfl, hT, rfl, hu, hv⟩ := y
  obtain ⟨d1, d2, rfl, r1, r2⟩ := hi i q u v h1 hu hv
  have eg := gr.gg e
  exact ⟨G1, B1, .refl, OkS.tup (.fz (r1.mono eg) (.fz (r2.mono eg) (.nil s))) hT⟩
def enumItems (ds : List D) : List R := ds.mapIdx fun i d => pairR (.int (i : Nat)) d
theorem src_enum (h : ∀ H, Ex B H → SqL K H a vs) (r : Reps K G ds vs) (e : Ex G B) : Src K L (Ite K a) (enumItems ds) G B := by
  refine src_pair (xs := fun i => some (.int (i : Nat))) (ys := fun i => vs[i]?) (by unfold enumItems; rw [List.length_mapIdx, ← r.length]; exact walk_enum) h e fun i q x y h1 hx hy => ?_
  obtain ⟨d, hd, rd⟩ := r.getV hy
  unfold enumItems at h1
  rw [List.getElem?_mapIdx, hd] at h1
  cases h1; cases hx
  exact ⟨_, _, rfl, .int, rd⟩
def zipItems (ds es : List D) : List R := (ds.zip es).map fun p => pairR p.1 p.2
end
def SemI (X : Cx) (Wx : WX) (wi : TI) (f : Env → O (List R)) : Prop := ∀ L G B H σ ρ Z, OkS X.K L G B H σ ρ →
  Post X.K Wx L G B σ (f ρ) (fun ρ' items G' B' H' => OkS X.K L G' B' H' σ ρ' → ∀ J, Src X.K L J items G' B' → Z J H') → wi σ H Z
def DI (X : Cx) (Wx : WX) (tg iter : Expr) (wi : TI) (f : Env → O (List R)) : Prop := PI X tg iter wi ∧ SemI X Wx wi f
section
variable {X : Cx} {Wx : WX} {tg e : Expr} {ta : TE} {tr : TA} {f : Env → O R} {fs : Env → O (List R)} {pos p : Pos}
/-- a list, a tuple, a text -/
def iAny (K : PySem.W.Frag) (te : TE) : TI := fun σ H Z => te σ H fun x H1 => (∃ a xs, x = .ref a ∧ SqL K H1 a xs ∧ Z (Itl K a) H1) ∨ (∃ a xs, x = .ref a ∧ SqT K H1 a xs ∧ Z (Itt K a) H1) ∨ ∃ z, x = .str z ∧ Z (Its z) H1
theorem pi_any (he : PE X e ta) : PI X tg e (iAny X.K ta) := by
  refine ⟨fun pins s σ H Z I h => thn (he.run pins s σ H _ I h) fun v s1 ⟨x, H1, I1, r1, q1⟩ => ?_⟩
  rcases q1 with ⟨a, xs, ex, hq, q⟩ | ⟨a, xs, ex, hq, q⟩ | ⟨z, ex, q⟩
  · subst ex; cases r1
    obtain ⟨its, rv, pl, hz⟩ := I1.list hq
    exact wpAny_pyIter_list pl.isList (pi_one (tk := s1.toks) I1 _ (turn_list a _) ⟨_, Heap.get?_push_size _ rfl, rfl, rfl⟩ q)
  · subst ex; cases r1
    obtain ⟨its, rv, pl, hz⟩ := I1.tuple hq
    exact wpAny_pyIter_tuple (show s1.heap.IsTuple a its.toArray from pl) (pi_one (tk := s1.toks) I1 _ (turn_tuple a _) ⟨_, Heap.get?_push_size _ rfl, rfl, rfl⟩ q)
  · subst ex
    obtain ⟨t, et⟩ := r1
    subst et
    cases ha : z.cps.all (· < 128)
    · exact wpAny_pyIter_wide ha (pi_one (tk := s1.toks) I1 _ (turn_str _ z t "str_iterator" (.inr rfl)) ⟨_, Heap.get?_push_size _ rfl, rfl, rfl⟩ q)
    · exact wpAny_pyIter_ascii ha (pi_one (tk := s1.toks) I1 _ (turn_str _ z t "str_ascii_iterator" (.inl rfl)) ⟨_, Heap.get?_push_size _ rfl, rfl, rfl⟩ q)
def itemsOf : D → Option (List R)
  | .lst ds => some (ds.map .fz)
  | .tup ds => some (ds.map .fz)
  | .str z => some (z.cps.toList.map fun c => .fz (.str ⟨#[c]⟩))
  | _ => none
def dIt (f : Env → O R) : Env → O (List R) := fun ρ => (f ρ).bind fun ρ r => (esc ρ r).bind fun ρ d => match itemsOf d with
  | some rs => .ok ρ rs
  | none => .un
theorem di_any (he : DE X Wx e ta f) : DI X Wx tg e (iAny X.K ta) (dIt f) := by
  obtain ⟨pt, se⟩ := he
  refine ⟨pi_any pt, fun L G B H σ ρ Z s p => se L G B H σ ρ _ s ((Post.bind p).imp fun ρ1 r1 G1 B1 H1 _ q1 v k1 => ?_)⟩
  obtain ⟨ρ2, d, G2, B2, _, g2, k2, q2⟩ := k1.escP (Post.bind q1)
  obtain ⟨rd, k2⟩ := k2.fzI
  have s2 := k2.state
  cases rd <;> simp only [itemsOf] at q2 <;> try exact q2.elim
  · exact .inr (.inr ⟨_, rfl, Post.okD q2 H1 s2 _ src_str⟩)
  · rename_i ha hr _
    exact .inl ⟨_, _, rfl, (ha.mono s2.gh).sql, Post.okD q2 H1 s2 _ (src_list (fun H e => (ha.mono (s2.gb.trans e)).sql) hr s2.gb)⟩
  · rename_i ha hr _
    exact .inr (.inl ⟨_, _, rfl, Evl.ex_t s2.gh ha, Post.okD q2 H1 s2 _ (src_tup (fun H e => Evl.ex_t (s2.gb.trans e) ha) hr s2.gb)⟩)
/-- the int arguments of range -/
def okR (i : Int) : Bool := decide (-1000000 ≤ i ∧ i ≤ 1000000)
def rng1 : List D → Option (Int × Int × Nat)
  | [.int j] => if okR j = true then some (0, 1, j.toNat) else none
  | _ => none
def rng2 : List D → Option (Int × Int × Nat)
  | [.int i, .int j] => if (okR i && okR j) = true then some (i, 1, (j - i).toNat) else none
  | _ => none
def rng3 : List D → Option (Int × Int × Nat)
  | [.int i, .int j, .int c] => if (okR i && okR j && decide (c = -1)) = true then some (i, -1, (i - j).toNat) else none
  | _ => none
def dRng (g : List D → Option (Int × Int × Nat)) (fs : Env → O (List R)) : Env → O (List R) := fun ρ => (fs ρ).bind fun ρ rs => match usesR ρ rs with
  | some ds => (match g ds with
    | some (lo, c, n) => .ok ρ (rngItems lo c n)
    | none => .un)
  | none => .un
theorem okR_of {i : Int} (h : okR i = true) : -(2 ^ 62) ≤ i ∧ i < 2 ^ 62 := by
  have := of_decide_eq_true h
  omega
theorem Tops.ints {K : PySem.W.Frag} {G H : Hp} : ∀ {is : List Int} {vs : List V}, Tops K G H (is.map D.int) vs → vs = is.map V.int
  | [], _, h => by cases h; rfl
  | i :: is, _, h => by
    cases h with
    | cons a b => rw [a.int_inv, Tops.ints b]; rfl
theorem dRng_ok {K : PySem.W.Frag} {L : Lent} {G B H : Hp} {σ : L2.St} {ρ : Env} {rs : List R} {vs : List V} {Z : It → Hp → Prop} {g : List D → Option (Int × Int × Nat)} (k : OkVs K L G H σ ρ B rs vs)
    (q : Post K Wx L G B σ ((match usesR ρ rs with | some ds => (match g ds with | some (lo, c, n) => O.ok ρ (rngItems lo c n) | none => .un) | none => .un) : O (List R)) fun ρ' items G' B' H' => OkS K L G' B' H' σ ρ' → ∀ J, Src K L J items G' B' → Z J H') :
    ∃ ds, Tops K G H ds vs ∧ ∃ lo c n, g ds = some (lo, c, n) ∧ ∀ J, Src K L J (rngItems lo c n) G B → Z J H := by
  cases u : usesR ρ rs with
  | none => simp only [u] at q; exact q.elim
  | some ds =>
    simp only [u] at q
    cases v : g ds with
    | none => simp only [v] at q; exact q.elim
    | some x =>
      obtain ⟨lo, c, n⟩ := x
      simp only [v] at q
      exact ⟨ds, k.uses u, lo, c, n, v, fun J sj => Post.okD q H (k.state k.length) J sj⟩
theorem di_rng1 {a : Expr} (hg : Gl X "range") (hm : X.mg "range" = none) (ha : DA X Wx [a] tr fs) (hs : starEach [a] X.env = [(false, eval a X.env)] := by rfl) : DI X Wx tg (.Call (.Name "range" p) [a] [] pos) (iRng1 tr) (dRng rng1 fs) := by
  obtain ⟨pt, sa⟩ := ha
  refine ⟨pi_range1 hg hm pt hs, fun L G B H σ ρ Z s p => sa L G B H σ ρ _ s ((Post.bind p).imp fun ρ1 r1 G1 B1 H1 _ q1 vs k1 => ?_)⟩
  obtain ⟨ds, tp, lo, c, n, er, hz⟩ := dRng_ok k1 q1
  unfold rng1 at er
  split at er
  · rename_i j
    split at er
    · rename_i hj
      cases er
      have := okR_of hj
      exact ⟨j, Tops.ints (is := [j]) tp, this.1, this.2, hz _ src_range⟩
    · cases er
  · cases er
theorem di_rng2 {a b : Expr} (hg : Gl X "range") (hm : X.mg "range" = none) (ha : DA X Wx [a, b] tr fs) (hs : starEach [a, b] X.env = [(false, eval a X.env), (false, eval b X.env)] := by rfl) (hs2 : starEach [b] X.env = [(false, eval b X.env)] := by rfl) :
    DI X Wx tg (.Call (.Name "range" p) [a, b] [] pos) (iRng2 tr) (dRng rng2 fs) := by
  obtain ⟨pt, sa⟩ := ha
  refine ⟨pi_range2 hg hm pt hs hs2, fun L G B H σ ρ Z s p => sa L G B H σ ρ _ s ((Post.bind p).imp fun ρ1 r1 G1 B1 H1 _ q1 vs k1 => ?_)⟩
  obtain ⟨ds, tp, lo, c, n, er, hz⟩ := dRng_ok k1 q1
  unfold rng2 at er
  split at er
  · rename_i i j
    split at er
    · rename_i hj
      cases er
      have hj := Bool.and_eq_true_iff.mp hj
      have h1 := okR_of hj.1
      have h2 := okR_of hj.2
      exact ⟨_, _, Tops.ints (is := [_, _]) tp, ⟨h1.1, h1.2, h2.1, h2.2⟩, hz _ src_range⟩
    · cases er
  · cases er
def dEnum (fs : Env → O (List R)) : Env → O (List R) := fun ρ => (fs ρ).bind fun ρ rs => (escs ρ rs).bind fun ρ ds => match ds with
  | [.lst es] => .ok ρ (enumItems es)
  | _ => .un
theorem di_enum {a : Expr} {elts : List Expr} {kk : Nat} {tpos : Pos} (hg : Gl X "enumerate") (hm : X.mg "enumerate" = none) (ha : DA X Wx [a] tr fs) (hs : starEach [a] X.env = [(false, eval a X.env)] := by rfl) :
    DI X Wx (.Tuple elts kk tpos) (.Call (.Name "enumerate" p) [a] [] pos) (iEnum X.K tr) (dEnum fs) := by
  obtain ⟨pt, sa⟩ := ha
  refine ⟨pi_enum hg hm pt hs, fun L G B H σ ρ Z s p => sa L G B H σ ρ _ s ((Post.bind p).imp fun ρ1 r1 G1 B1 H1 _ q1 vs k1 => ?_)⟩
  obtain ⟨ρ2, ds, G2, B2, _, g2, s2, rp, q2⟩ := k1.escsP (Post.bind q1)
  split at q2
  · cases rp with
    | cons r1 r2 =>
      cases r2
      cases r1 with
      | lst ha hr => exact ⟨_, _, rfl, (ha.mono s2.gh).sql, Post.okD q2 H1 s2 _ (src_enum (fun H e => (ha.mono (s2.gb.trans e)).sql) hr s2.gb)⟩
  · exact q2.elim
def dZip (fs : Env → O (List R)) : Env → O (List R) := fun ρ => (fs ρ).bind fun ρ rs => (escs ρ rs).bind fun ρ ds => match ds with
  | [.lst es, .lst fs] => .ok ρ (zipItems es fs)
  | _ => .un
def dLoop (g : Env → R → O Unit) (b : Env → O Fl) : List R → Env → O Fl
  | [], ρ => .ok ρ .nx
  | r :: rs, ρ => (g ρ r).bind fun ρ _ => (b ρ).bind fun ρ fl => match fl with
    | .nx => dLoop g b rs ρ
    | .ct => dLoop g b rs ρ
    | .bk => .ok ρ .nx
    | .rt r => .ok ρ (.rt r)
def dFor (fi : Env → O (List R)) (g : Env → R → O Unit) (b : Env → O Fl) : Env → O Fl := fun ρ => (fi ρ).bind fun ρ rs => dLoop g b rs ρ
variable {S T : List Nat} {tg0 : TG} {tb : TS} {g : Env → R → O Unit} {b : Env → O Fl} {body : List Stmt} {iter : Expr} {wi : TI} {fi : Env → O (List R)}
theorem Stay.same {S : List Nat} {σ σ1 σ2 : L2.St} (a : Stay S σ σ1) (b : Stay S σ1 σ2) : Stay S σ σ2 := (a.trans b).mono fun i h => (List.mem_append.mp h).elim id id
theorem PostS.same {K : PySem.W.Frag} {L : Lent} {G B G' B' : Hp} {σ σ' : L2.St} {o : O Fl} {D : Ends} (p : PostS K Wx L G B σ S o D) (g : Grow G B G' B') (s : Stay S σ σ') : PostS K Wx L G' B' σ' S o D :=
  PostS.step (S := S) (p.sub fun i h => (List.mem_append.mp h).elim id id) g s
theorem loop_ok {J : It} {L : Lent} {G B H : Hp} {σ : L2.St} {ρ : Env} {D : Ends} {items : List R} (hg : SemG X S tg0 g) (hn : ∀ ρ r ρ' e, g ρ r ≠ .er ρ' e) (hb : SemS X Wx T tb b)
    (s : OkS X.K L G B H σ ρ) (src : Src X.K L J items G B) (p : PostS X.K Wx L G B σ (S ++ T) (dLoop g b items ρ) D) :
    ∃ W : Nat → Nat → L2.St → Hp → Prop, (∃ m, W 0 m σ H) ∧ ∀ i m σ H, W i m σ H →
      (J.stop i H ∧ D.nx σ H) ∨ (J.go i H ∧ ∃ N : L2.St → Hp → Prop, (∀ σ' H', N σ' H' → ∃ m', m' < m ∧ W (i + 1) m' σ' H') ∧ ∀ x H', J.yld i H x H' → tg0 x σ H' fun σ2 H2 => tb { D with nx := N, ct := N, bk := D.nx } σ2 H2) := by
  obtain ⟨Gd, Y, w, hG, hY⟩ := src
  refine for_it w (fun i σ' H' => ∃ G' B' ρ', Grow G B G' B' ∧ OkS X.K L G' B' H' σ' ρ' ∧ PostS X.K Wx L G' B' σ' (S ++ T) (dLoop g b (items.drop i) ρ') D)
    ⟨G, B, ρ, .refl, s, p⟩ (fun i σ' H' _ ⟨G', B', ρ', gr, s', _⟩ => hG H' (gr.bb.trans s'.bh)) ?_ ?_
  · rintro i x σ1 H1 H1' hi ⟨G1, B1, ρ1, gr, s1, p1⟩ y
    obtain ⟨r, hr⟩ : ∃ r, items[i]? = some r := ⟨items[i], List.getElem?_eq_getElem hi⟩
    obtain ⟨G2, B2, g2, k2⟩ := hY i r G1 B1 H1 σ1 ρ1 x H1' hr gr s1 y
    have ed : items.drop i = r :: items.drop (i + 1) := by
      rw [List.drop_eq_getElem_cons hi]
      rw [List.getElem?_eq_getElem hi] at hr
      cases hr
      rfl
    rw [ed] at p1
    unfold dLoop at p1
    cases eg : g ρ1 r with
    | un => rw [eg] at p1; exact p1.elim
    | er ρ2 e => exact (hn _ _ _ _ eg).elim
    | ok ρ2 u =>
      rw [eg] at p1
      refine hg L G2 B2 H1' σ1 ρ1 r x _ ρ2 u k2 eg fun G3 B3 σ3 g3 st3 s3 => ?_
      have p3 := PostS.same p1 (g2.trans g3) (st3.mono fun i h => List.mem_append_left _ h)
      have gr3 := (gr.trans g2).trans g3
      refine hb L G3 B3 H1' σ3 ρ2 _ s3 ?_
      simp only [O.bind_ok] at p3
      cases eb : b ρ2 with
      | un => rw [eb] at p3; exact p3
      | er ρ4 e => rw [eb] at p3; exact PostS.sub (T := S ++ T) (o := O.er ρ4 e) p3 fun i hi => List.mem_append_right _ hi
      | ok ρ4 fl =>
        rw [eb] at p3
        cases fl with
        | nx => exact fun G4 B4 H4 σ4 g4 st4 s4 => ⟨G4, B4, ρ4, gr3.trans g4, s4, PostS.same p3 g4 (st4.mono fun i h => List.mem_append_right _ h)⟩
        | ct => exact fun G4 B4 H4 σ4 g4 st4 s4 => ⟨G4, B4, ρ4, gr3.trans g4, s4, PostS.same p3 g4 (st4.mono fun i h => List.mem_append_right _ h)⟩
        | bk => exact fun G4 B4 H4 σ4 g4 st4 s4 => p3 G4 B4 H4 σ4 g4 (st4.mono fun i h => List.mem_append_right _ h) s4
        | rt r => exact fun G4 B4 H4 σ4 v g4 st4 k4 => p3 G4 B4 H4 σ4 v g4 (st4.mono fun i h => List.mem_append_right _ h) k4
  · rintro σ1 H1 ⟨G1, B1, ρ1, gr, s1, p1⟩
    rw [List.drop_length] at p1
    exact p1 G1 B1 H1 σ1 .refl .refl s1
theorem ds_for (hp : PassesOwn (model X.prog X.w) X.A X.env X.xe) (hc : X.calm = true) (hi : DI X Wx tg iter wi fi) (hg : DG X S tg tg0 g) (hb : DSs X Wx T body tb b)
    (hs : ∀ x, foldedSetIterable iter X.env x = pure x := by intro _; rfl) : DS X Wx (S ++ T) (.For tg iter body [] pos) (tFor wi tg0 tb) (dFor fi g b) := by
  obtain ⟨pi, si⟩ := hi
  obtain ⟨pg, sg, hn⟩ := hg
  obtain ⟨pb, sb⟩ := hb
  exact ⟨ps_for hp hc pi pg pb hs, fun L G B H σ ρ D s p => si L G B H σ ρ _ s ((PostS.bind p).imp fun ρ1 rs G1 B1 H1 _ q s1 J sj => loop_ok sg hn sb s1 sj q)⟩
/-- a list of one's own is walked: it is only read meanwhile -/
def unlend (j : Nat) (d : D) : O Fl → O Fl
  | .ok ρ fl => .ok (ρ.set j (.own d)) fl
  | .er ρ e => .er (ρ.set j (.own d)) e
  | .un => .un
def Lent.more (L : Lent) (j : Nat) (l : Addr) (o : HO) : Lent := fun i a u => (i = j ∧ a = l ∧ u = o) ∨ (i ≠ j ∧ L i a u)
theorem OkS.lend {K : PySem.W.Frag} {L : Lent} {G B H : Hp} {σ : L2.St} {ρ : Env} {j : Nat} {l : Addr} {o : HO} {d : D} (s : OkS K L G B H σ ρ) (hj : ρ[j]? = some (.own d)) (h1 : σ[j]? = some (some (.ref l))) (h2 : B l = none) (h3 : H l = some o) (h4 : RepO K G d o) :
    OkS K (L.more j l o) G (upd B l o) H σ (ρ.set j (.ln d)) := by
  have hjl : j < ρ.length := (List.getElem?_eq_some_iff.mp hj).1
  refine ⟨s.gb.trans (Ex.new h2), fun i a u q => ?_, fun b u q => ?_, by rw [List.length_set]; exact s.len, fun i d' q => ?_, fun i d' q => ?_, fun i d' q => ?_, fun i k di dk a q1 q2 => ?_⟩
  · rcases q with ⟨_, rfl, rfl⟩ | ⟨_, q⟩
    · exact upd_same
    · exact (Ex.new h2) _ _ (s.lb _ _ _ q)
  · by_cases hb : b = l
    · subst hb; rw [upd_same] at q; cases q; exact h3
    · rw [upd_ne hb] at q; exact s.bh b u q
  · rw [List.getElem?_set] at q
    by_cases e : j = i
    · subst e; rw [if_pos rfl, if_pos hjl] at q; cases q
    · rw [if_neg e] at q; exact s.fz i d' q
  · rw [List.getElem?_set] at q
    by_cases e : j = i
    · subst e; rw [if_pos rfl, if_pos hjl] at q; cases q
    · rw [if_neg e] at q
      obtain ⟨m, u, a, b, c, r⟩ := s.ow i d' q
      have hm : m ≠ l := fun z => by subst z; exact e (s.dis j i d d' m hj q h1 a)
      exact ⟨m, u, a, by rw [upd_ne hm]; exact b, c, r⟩
  · rw [List.getElem?_set] at q
    by_cases e : j = i
    · subst e; rw [if_pos rfl, if_pos hjl] at q; cases q
      exact ⟨_, h1, .inr ⟨l, o, rfl, .inl ⟨rfl, rfl, rfl⟩, h4⟩⟩
    · rw [if_neg e] at q
      obtain ⟨v, a, b⟩ := s.ln i d' q
      exact ⟨v, a, b.imp id fun ⟨m, u, x, y, z⟩ => ⟨m, u, x, .inr ⟨Ne.symm e, y⟩, z⟩⟩
  · rw [List.getElem?_set] at q1 q2
    by_cases e : j = i
    · subst e; rw [if_pos rfl, if_pos hjl] at q1; cases q1
    · by_cases e2 : j = k
      · subst e2; rw [if_pos rfl, if_pos hjl] at q2; cases q2
      · rw [if_neg e] at q1; rw [if_neg e2] at q2
        exact s.dis i k di dk a q1 q2
/-- what was lent comes back -/
theorem OkS.unlend {K : PySem.W.Frag} {L : Lent} {G0 B0 G B H : Hp} {σ : L2.St} {ρ : Env} {j : Nat} {l : Addr} {o : HO} {d : D} (s : OkS K (L.more j l o) G B H σ ρ) (gb : Ex G0 B0) (lb : LB L B0) (b0 : B0 l = none) (gr : Grow G0 (upd B0 l o) G B)
    (h1 : σ[j]? = some (some (.ref l))) (h4 : RepO K G0 d o) : OkS K L G (del B l) H σ (ρ.set j (.own d)) := by
  have hl : B l = some o := gr.bb l o upd_same
  have hg : G l = none := (gr.fr l o upd_same).trans (none_of_ex gb b0)
  have hjl : ∀ x, (ρ.set j x)[j]? = some (.own d) → j < ρ.length := fun x q => by
    rw [List.getElem?_set, if_pos rfl] at q
    split at q
    · assumption
    · cases q
  have other : ∀ (i : Nat) di a, ρ[i]? = some (.own di) → σ[i]? = some (some (.ref a)) → a ≠ l := fun i di a q w z => by
    obtain ⟨m, u, a1, a2, _⟩ := s.ow i di q
    rw [w] at a1; cases a1
    subst z; rw [hl] at a2; cases a2
  refine ⟨fun a u q => ?_, fun i a u q => ?_, fun a u q => ?_, by rw [List.length_set]; exact s.len, fun i d' q => ?_, fun i d' q => ?_, fun i d' q => ?_, fun i k di dk a q1 q2 w1 w2 => ?_⟩
  · rw [del_ne (ne_of_none q hg)]; exact s.gb a u q
  · have h := lb i a u q
    have ha := ne_of_none h b0
    rw [del_ne ha]
    exact gr.bb a u (by rw [upd_ne ha]; exact h)
  · have ha : a ≠ l := fun z => by subst z; rw [del_same] at q; cases q
    rw [del_ne ha] at q; exact s.bh a u q
  · rw [List.getElem?_set] at q
    by_cases e : j = i
    · subst e; rw [if_pos rfl] at q; split at q <;> cases q
    · rw [if_neg e] at q; exact s.fz i d' q
  · rw [List.getElem?_set] at q
    by_cases e : j = i
    · subst e; rw [if_pos rfl] at q
      split at q
      · cases q
        exact ⟨l, o, h1, del_same, s.bh l o hl, h4.mono (gr.gg (gb.trans (Ex.new b0)))⟩
      · cases q
    · rw [if_neg e] at q
      obtain ⟨m, u, a, b, c, r⟩ := s.ow i d' q
      exact ⟨m, u, a, by rw [del_ne (other i d' m q a)]; exact b, c, r⟩
  · rw [List.getElem?_set] at q
    by_cases e : j = i
    · subst e; rw [if_pos rfl] at q; split at q <;> cases q
    · rw [if_neg e] at q
      obtain ⟨v, a, b⟩ := s.ln i d' q
      refine ⟨v, a, b.imp id fun ⟨m, u, x, y, z⟩ => ⟨m, u, x, ?_, z⟩⟩
      rcases y with ⟨z, _⟩ | ⟨_, y⟩
      · exact absurd z.symm e
      · exact y
  · rw [List.getElem?_set] at q1 q2
    by_cases e : j = i
    · by_cases e2 : j = k
      · exact e.symm.trans e2
      · subst e
        rw [if_neg e2] at q2
        rw [h1] at w1; cases w1
        exact absurd rfl (other k dk l q2 w2)
    · by_cases e2 : j = k
      · subst e2
        rw [if_neg e] at q1
        rw [h1] at w2; cases w2
        exact absurd rfl (other i di l q1 w1)
      · rw [if_neg e] at q1; rw [if_neg e2] at q2
        exact s.dis i k di dk a q1 q2 w1 w2
end
end DN
set_option maxHeartbeats 2000000
namespace DN
open PySem PySem.Spec PyProof.Rows L2
open Evl (Ex)
section
variable {X : Cx} {Wx : WX} {tg e : Expr} {ta : TE} {tr : TA} {f : Env → O R} {fs : Env → O (List R)} {pos p : Pos} {S T : List Nat} {tg0 : TG} {tb : TS} {g : Env → R → O Unit} {b : Env → O Fl} {body : List Stmt} {iter : Expr} {wi : TI} {fi : Env → O (List R)}
theorem post_unlend {K : PySem.W.Frag} {L : Lent} {G B : Hp} {σ : L2.St} {j : Nat} {l : Addr} {o : HO} {d : D} {D : Ends} {out : O Fl} (gb : Ex G B) (lb : LB L B) (h1 : σ[j]? = some (some (.ref l))) (h2 : B l = none) (h4 : RepO K G d o) (hj : j ∉ S)
    (p : PostS K Wx L G B σ S (unlend j d out) D) : PostS K Wx (L.more j l o) G (upd B l o) σ S out D := by
  have back : ∀ {G' B' H' : Hp} {σ' : L2.St} {ρ' : Env}, Grow G (upd B l o) G' B' → Stay S σ σ' → OkS K (L.more j l o) G' B' H' σ' ρ' → Grow G B G' (del B' l) ∧ OkS K L G' (del B' l) H' σ' (ρ'.set j (.own d)) := fun {G' B' H' σ' ρ'} gr st s =>
    ⟨⟨ex_del gr.bb h2, fun a u ha => gr.fr a u (by rw [upd_ne (ne_of_none ha h2)]; exact ha)⟩, s.unlend gb lb h2 gr (by rw [st.2 j hj]; exact h1) h4⟩
  cases out with
  | un => exact p
  | er ρ e => exact fun G' B' H' σ' c d' gr st s oe => p G' _ H' σ' c d' (back gr st s).1 st (back gr st s).2 oe
  | ok ρ fl =>
    cases fl with
    | nx => exact fun G' B' H' σ' gr st s => p G' _ H' σ' (back gr st s).1 st (back gr st s).2
    | bk => exact fun G' B' H' σ' gr st s => p G' _ H' σ' (back gr st s).1 st (back gr st s).2
    | ct => exact fun G' B' H' σ' gr st s => p G' _ H' σ' (back gr st s).1 st (back gr st s).2
    | rt r =>
      intro G' B' H' σ' v gr st k
      -- what is handed back is pending: the lent object comes back beneath it
      have hl : B' l = some o := gr.bb l o upd_same
      have key : ∀ {rs : List R} {vs : List V} {B1 : Hp}, OkVs K (L.more j l o) G' H' σ' ρ B1 rs vs → Grow G (upd B l o) G' B1 → OkVs K L G' H' σ' (ρ.set j (.own d)) (del B1 l) rs vs := by
        intro rs vs B1 k
        induction k with
        | nil s => intro gr; exact .nil (back gr st s).2
        | fz a _ ih => intro gr; exact .fz a (ih gr)
        | bor a _ ih => intro gr; exact .bor a (ih gr)
        | @own B1 m u dd rs vs g0 l0 b0 a k ih =>
          intro gr
          have hm : m ≠ l := fun z => by subst z; rw [gr.bb m o upd_same] at b0; cases b0
          have nl : NL L m := fun i o' q => by
            have := lb i m o' q
            have := gr.bb m o' (by rw [upd_ne hm]; exact this)
            rw [b0] at this; cases this
          refine .own g0 nl (by rw [del_ne hm]; exact b0) a ?_
          have e : upd (del B1 l) m u = del (upd B1 m u) l := by
            funext x; unfold upd del
            by_cases h1 : x = m
            · subst h1; simp [hm]
            · by_cases h2 : x = l <;> simp [h1, h2, Ne.symm hm]
          rw [e]
          exact ih ⟨gr.bb.trans (Ex.new b0), gr.fr⟩
        | @tp B1 m qs ws rs vs g0 l0 b0 n k ih =>
          intro gr
          have hm : m ≠ l := fun z => by subst z; rw [gr.bb m o upd_same] at b0; cases b0
          have nl : NL L m := fun i o' q => by
            have := lb i m o' q
            have := gr.bb m o' (by rw [upd_ne hm]; exact this)
            rw [b0] at this; cases this
          refine .tp g0 nl (by rw [del_ne hm]; exact b0) n ?_
          have e : upd (del B1 l) m (.tup ws) = del (upd B1 m (.tup ws)) l := by
            funext x; unfold upd del
            by_cases h1 : x = m
            · subst h1; simp [hm]
            · by_cases h2 : x = l <;> simp [h1, h2, Ne.symm hm]
          rw [e]
          exact ih ⟨gr.bb.trans (Ex.new b0), gr.fr⟩
      exact p G' _ H' σ' v ⟨ex_del gr.bb h2, fun a u ha => gr.fr a u (by rw [upd_ne (ne_of_none ha h2)]; exact ha)⟩ st (key k gr)
def dWhile (c : Env → O Bool) (b : Env → O Fl) : Nat → Env → O Fl
  | 0, _ => .un
  | n + 1, ρ => (c ρ).bind fun ρ k => if k = true then (b ρ).bind fun ρ fl => match fl with
    | .nx => dWhile c b n ρ
    | .ct => dWhile c b n ρ
    | .bk => .ok ρ .nx
    | .rt r => .ok ρ (.rt r) else .ok ρ .nx
theorem ds_while {c : Expr} {tc : TT} {fc : Env → O Bool} (n : Nat) (hp : PassesOwn (model X.prog X.w) X.A X.env X.xe) (hc : DT X Wx c tc fc) (hb : DSs X Wx T body tb b) : DS X Wx T (.While c body [] pos) (tWhile tc tb) (dWhile fc b n) := by
  obtain ⟨pc, sc⟩ := hc
  obtain ⟨pb, sb⟩ := hb
  refine ⟨ps_while hp pc pb, fun L G B H σ ρ D s p => ⟨fun m σ' H' => ∃ G' B' ρ', Grow G B G' B' ∧ OkS X.K L G' B' H' σ' ρ' ∧ PostS X.K Wx L G' B' σ' T (dWhile fc b m ρ') D, ⟨n, G, B, ρ, .refl, s, p⟩, ?_⟩⟩
  rintro m σ1 H1 ⟨G1, B1, ρ1, gr, s1, p1⟩
  cases m with
  | zero => exact p1.elim
  | succ m =>
    unfold dWhile at p1
    refine sc L G1 B1 H1 σ1 ρ1 _ s1 ((PostS.bind p1).imp fun ρ2 k G2 B2 H2 g2 p2 s2 => ?_)
    cases k with
    | false =>
      rw [if_neg Bool.false_ne_true] at p2 ⊢
      exact p2 G2 B2 H2 σ1 .refl .refl s2
    | true =>
      rw [if_pos rfl] at p2 ⊢
      refine ⟨fun σ' H' => ∃ G' B' ρ', Grow G B G' B' ∧ OkS X.K L G' B' H' σ' ρ' ∧ PostS X.K Wx L G' B' σ' T (dWhile fc b m ρ') D, fun σ' H' w => ⟨m, Nat.lt_succ_self _, w⟩, ?_⟩
      refine sb L G2 B2 H2 σ1 ρ2 _ s2 ?_
      have gr2 := gr.trans g2
      cases eb : b ρ2 with
      | un => rw [eb] at p2; exact p2
      | er ρ4 e => rw [eb] at p2; exact p2
      | ok ρ4 fl =>
        rw [eb] at p2
        cases fl with
        | nx => exact fun G4 B4 H4 σ4 g4 st4 s4 => ⟨G4, B4, ρ4, gr2.trans g4, s4, PostS.same p2 g4 st4⟩
        | ct => exact fun G4 B4 H4 σ4 g4 st4 s4 => ⟨G4, B4, ρ4, gr2.trans g4, s4, PostS.same p2 g4 st4⟩
        | bk => exact fun G4 B4 H4 σ4 g4 st4 s4 => p2 G4 B4 H4 σ4 g4 st4 s4
        | rt r => exact fun G4 B4 H4 σ4 v g4 st4 k4 => p2 G4 B4 H4 σ4 v g4 st4 k4
def dPar (is : List Nat) (fs : Env → O (List R)) : Env → O Fl := fun ρ => (fs ρ).bind fun ρ rs => if rs.length = is.length then (match settle ρ rs with
    | some (ρ', rs') => .ok (sets ρ' is rs') .nx
    | none => .un) else .un
theorem par_end {K : PySem.W.Frag} {L : Lent} {G B H : Hp} {σ : L2.St} {ρ : Env} {is : List Nat} {rs : List R} {vs : List V} {D : Ends} (k : OkVs K L G H σ ρ B rs vs)
    (q : PostS K Wx L G B σ is ((if rs.length = is.length then (match settle ρ rs with | some (ρ', rs') => O.ok (sets ρ' is rs') Fl.nx | none => .un) else .un) : O Fl) D) : vs.length = is.length ∧ D.nx (setsV σ is vs) H := by
  split at q
  · rename_i hl
    cases es : settle ρ rs with
    | none => simp only [es] at q; exact q.elim
    | some x =>
      simp only [es] at q
      obtain ⟨G2, B2, g2, k2, n2⟩ := settle_ok k (by rw [es])
      exact ⟨by rw [← k.length]; exact hl, q G2 B2 H _ g2 setsV_stay (sets_ok k2 n2 (by rw [settle_len (rs := rs) (rs' := x.2) (ρ := ρ) (ρ' := x.1) (by rw [es])]; exact hl.symm))⟩
  · exact q.elim
theorem ds_par {i j : Nat} {x y : Str} {a b : Expr} {px py pt : Pos} {kt k2 pt2} (hc : X.calm = true) (hN : X.N.Nodup) (hi : X.N[i]? = some x) (hj : X.N[j]? = some y) (hij : i ≠ j)
    (hx : X.env.scope.names.lookup x = some .local) (hy : X.env.scope.names.lookup y = some .local) (ha : DA X Wx [a, b] tr fs)
    (hw : swappedStores [.Tuple [.Name x px, .Name y py] kt pt] (.Tuple [a, b] k2 pt2) X.env = pure (some [x, y]))
    (hs : swapsWithSole [.Tuple [.Name x px, .Name y py] kt pt] (.Tuple [a, b] k2 pt2) pos.line X.env = pure false := by rfl) :
    DS X Wx [i, j] (.Assign [.Tuple [.Name x px, .Name y py] kt pt] (.Tuple [a, b] k2 pt2) pos) (tPar i j tr) (dPar [i, j] fs) := by
  obtain ⟨pa, sa⟩ := ha
  refine ⟨ps_par hc hN hi hj hij hx hy pa hw hs, fun L G B H σ ρ D s p => sa L G B H σ ρ _ s ((PostS.bind p).imp fun ρ1 rs G1 B1 H1 _ q vs k => ?_)⟩
  obtain ⟨hl, q⟩ := par_end (D := D) k q
  match vs, hl, q with
  | [v, w], _, q => exact ⟨v, w, rfl, q⟩
def dAug (i : Nat) (gop : D → D → Option R) (f : Env → O R) : Env → O Fl := fun ρ => match getD ρ i with
  | none => .un
  | some _ => (dN f ρ).bind fun ρ r2 => (lift2 gop ρ (.bor i) r2).bind fun ρ r => (store i ρ r).bind fun ρ _ => .ok ρ .nx
theorem ds_aug {x : Str} {px : Pos} {op : Operator} {gop : D → D → Option R} {r : R2} (i : Nat) (hN : X.N.Nodup) (he : DE X Wx e ta f) (ho : OpR X (inplaceOp op) r) (hg : OpSound X.K gop r) (hi : X.N[i]? = some x := by rfl)
    (hx : Loc X.env.scope x := by first | exact Or.inl rfl | exact Or.inr rfl) (hf : X.fn x = true ∨ X.env.scope.names.lookup x = some .local := by first | exact .inl rfl | exact .inr rfl) :
    DS X Wx [i] (.AugAssign (.Name x px) op e pos) (tAug i ta r) (dAug i gop f) := by
  obtain ⟨pe, se⟩ := he
  refine ⟨ps_aug hN hi hx pe ho hf, fun L G B H σ ρ D s p => ?_⟩
  unfold dAug at p
  cases eg : getD ρ i with
  | none => simp only [eg] at p; exact p.elim
  | some d0 =>
    simp only [eg] at p
    obtain ⟨v, hv⟩ := s.has eg
    refine ⟨v, hv, se.n L G B H σ ρ _ s ((PostS.bind p).imp fun ρ1 r1 G1 B1 H1 _ q1 w k1 => ?_)⟩
    have p2 : Post X.K Wx L G1 B1 σ (lift2 gop ρ1 (.bor i) r1) fun ρ' r G' B' H' => ∀ v, OkVs X.K L G' H' σ ρ' B' [r] [v] → D.nx (σ.set i (some v)) H' :=
      (PostS.bind q1).imp fun ρ2 r2 G2 B2 H2 _ q2 w2 k2 => by
        cases es : store i ρ2 r2 with
        | un => rw [es] at q2; exact q2.elim
        | er ρ e => exact (store_noer es).elim
        | ok ρ3 u =>
          rw [es] at q2
          obtain ⟨G', B', g, s'⟩ := store_ok (i := i) k2 es
          exact q2 G' B' H2 _ g Stay.one s'
    exact lift2_ok (W := Wx) (Q := fun z H' => D.nx (σ.set i (some z)) H') hg (.bor hv k1) p2
end
end DN
set_option maxHeartbeats 2000000
namespace DN
open PySem PySem.Spec PyProof.Rows L2
open Evl (Ex)
def wipeE (ρ : Env) : List Nat → Env
  | [] => ρ
  | v :: vs => (wipeE ρ vs).set v .un
def isOwn : Sl → Bool
  | .own _ => true
  | _ => false
def noOwnAt (ρ : Env) (vs : List Nat) : Bool := vs.all fun i => !isOwn (ρ.getD i .un)
def restoreE (ρ0 ρ : Env) : List Nat → Env
  | [] => ρ
  | v :: vs => (restoreE ρ0 ρ vs).set v (ρ0.getD v .un)
theorem wipeE_length (ρ : Env) : ∀ vs : List Nat, (wipeE ρ vs).length = ρ.length
  | [] => rfl
  | v :: vs => by unfold wipeE; rw [List.length_set, wipeE_length ρ vs]
theorem restoreE_length (ρ0 ρ : Env) : ∀ vs : List Nat, (restoreE ρ0 ρ vs).length = ρ.length
  | [] => rfl
  | v :: vs => by unfold restoreE; rw [List.length_set, restoreE_length ρ0 ρ vs]
theorem wipeE_out {ρ : Env} {i : Nat} : ∀ {vs : List Nat}, i ∉ vs → (wipeE ρ vs)[i]? = ρ[i]?
  | [], _ => rfl
  | v :: vs, h => by
    unfold wipeE
    rw [List.getElem?_set_ne (fun e => h (by rw [e]; exact List.mem_cons_self)), wipeE_out fun z => h (List.mem_cons_of_mem _ z)]
theorem wipeE_in {ρ : Env} {i : Nat} {x : Sl} : ∀ {vs : List Nat}, i ∈ vs → (wipeE ρ vs)[i]? = some x → x = .un
  | v :: vs, h, e => by
    unfold wipeE at e
    rw [List.getElem?_set] at e
    by_cases hv : v = i
    · rw [if_pos hv] at e
      split at e
      · cases e; rfl
      · cases e
    · rw [if_neg hv] at e
      rcases List.mem_cons.mp h with z | z
      · exact absurd z.symm hv
      · exact wipeE_in z e
theorem restoreE_out {ρ0 ρ : Env} {i : Nat} : ∀ {vs : List Nat}, i ∉ vs → (restoreE ρ0 ρ vs)[i]? = ρ[i]?
  | [], _ => rfl
  | v :: vs, h => by
    unfold restoreE
    rw [List.getElem?_set_ne (fun e => h (by rw [e]; exact List.mem_cons_self)), restoreE_out fun z => h (List.mem_cons_of_mem _ z)]
theorem restoreE_in {ρ0 ρ : Env} {i : Nat} {x : Sl} : ∀ {vs : List Nat}, i ∈ vs → (restoreE ρ0 ρ vs)[i]? = some x → x = ρ0.getD i .un
  | v :: vs, h, e => by
    unfold restoreE at e
    rw [List.getElem?_set] at e
    by_cases hv : v = i
    · rw [if_pos hv] at e
      split at e
      · cases e; rw [hv]
      · cases e
    · rw [if_neg hv] at e
      rcases List.mem_cons.mp h with z | z
      · exact absurd z.symm hv
      · exact restoreE_in z e
theorem noOwnAt_of {ρ : Env} {vs : List Nat} (h : noOwnAt ρ vs = true) {i : Nat} (hi : i ∈ vs) : isOwn (ρ.getD i .un) = false := by
  have := List.all_eq_true.mp h i hi
  simpa using this
theorem wipe_in {σ : L2.St} {i : Nat} : ∀ {vs : List Nat}, i ∈ vs → i < σ.length → (wipe σ vs)[i]? = some none
  | v :: vs, h, hl => by
    unfold wipe
    by_cases hv : v = i
    · subst hv
      rw [List.getElem?_set_self (by rw [wipe_length]; exact hl)]
    · rw [List.getElem?_set_ne hv]
      rcases List.mem_cons.mp h with z | z
      · exact absurd z.symm hv
      · exact wipe_in z hl
theorem wipe_stay {S vs : List Nat} {σ σ' : L2.St} (h : Stay S (wipe σ vs) σ') (hs : ∀ i, i ∈ S → i ∈ vs) : wipe σ' vs = wipe σ vs := by
  have hl : σ'.length = σ.length := by rw [h.1, wipe_length]
  refine List.ext_getElem? fun i => ?_
  by_cases hi : i ∈ vs
  · by_cases hlt : i < σ.length
    · rw [wipe_in hi hlt, wipe_in hi (by omega)]
    · rw [List.getElem?_eq_none (by rw [wipe_length]; omega), List.getElem?_eq_none (by rw [wipe_length]; omega)]
  · rw [wipe_out hi, h.2 i fun z => hi (hs i z)]
section
variable {K : PySem.W.Frag} {L : Lent} {G B H : Hp} {σ : L2.St} {ρ : Env} {vs : List Nat}
theorem OkS.wiped (s : OkS K L G B H σ ρ) : OkS K L G B H (wipe σ vs) (wipeE ρ vs) := by
  have inn : ∀ {i : Nat} {x : Sl}, x ≠ .un → (wipeE ρ vs)[i]? = some x → i ∉ vs ∧ ρ[i]? = some x ∧ (wipe σ vs)[i]? = σ[i]? := fun {i x} hx e => by
    have hi : i ∉ vs := fun z => hx (wipeE_in z e)
    exact ⟨hi, by rw [← wipeE_out hi]; exact e, wipe_out hi⟩
  refine ⟨s.gb, s.lb, s.bh, by rw [wipe_length, wipeE_length]; exact s.len, fun i d e => ?_, fun i d e => ?_, fun i d e => ?_, fun i j d d' l h1 h2 w1 w2 => ?_⟩
  · obtain ⟨_, a, b⟩ := inn (by simp) e
    rw [b]; exact s.fz i d a
  · obtain ⟨_, a, b⟩ := inn (by simp) e
    rw [b]; exact s.ow i d a
  · obtain ⟨_, a, b⟩ := inn (by simp) e
    rw [b]; exact s.ln i d a
  · obtain ⟨_, a, b⟩ := inn (by simp) h1
    obtain ⟨_, a', b'⟩ := inn (by simp) h2
    rw [b] at w1; rw [b'] at w2
    exact s.dis i j d d' l a a' w1 w2
theorem OkS.restored {G1 B1 H1 : Hp} {ρ0 : Env} (s : OkS K L G B H (wipe σ vs) ρ) (s0 : OkS K L G1 B1 H1 σ ρ0) (g : Ex G1 G) (no : noOwnAt ρ0 vs = true) : OkS K L G B H σ (restoreE ρ0 ρ vs) := by
  have hlen : ρ.length = σ.length := by rw [← s.len, wipe_length]
  have inn : ∀ {i : Nat} {x : Sl}, x ≠ .un → (restoreE ρ0 ρ vs)[i]? = some x → (i ∈ vs ∧ ρ0[i]? = some x) ∨ (i ∉ vs ∧ ρ[i]? = some x ∧ (wipe σ vs)[i]? = σ[i]?) := fun {i x} hx e => by
    by_cases hi : i ∈ vs
    · have e' := restoreE_in hi e
      rw [List.getD_eq_getElem?_getD] at e'
      cases q : ρ0[i]? with
      | none => rw [q] at e'; exact absurd e' hx
      | some y => rw [q] at e'; exact .inl ⟨hi, by rw [e']; rfl⟩
    · exact .inr ⟨hi, by rw [← restoreE_out hi]; exact e, wipe_out hi⟩
  have noown : ∀ {i : Nat} {d : D}, i ∈ vs → ρ0[i]? = some (.own d) → False := fun {i d} hi e => by
    have := noOwnAt_of no hi
    rw [List.getD_eq_getElem?_getD, e] at this
    simp [isOwn] at this
  refine ⟨s.gb, s.lb, s.bh, by rw [restoreE_length]; exact hlen.symm, fun i d e => ?_, fun i d e => ?_, fun i d e => ?_, fun i j d d' l h1 h2 w1 w2 => ?_⟩
  · rcases inn (by simp) e with ⟨_, a⟩ | ⟨_, a, b⟩
    · obtain ⟨v, x, y⟩ := s0.fz i d a
      exact ⟨v, x, y.mono g⟩
    · rw [← b]; exact s.fz i d a
  · rcases inn (by simp) e with ⟨hi, a⟩ | ⟨_, a, b⟩
    · exact (noown hi a).elim
    · rw [← b]; exact s.ow i d a
  · rcases inn (by simp) e with ⟨_, a⟩ | ⟨_, a, b⟩
    · obtain ⟨v, x, y⟩ := s0.ln i d a
      exact ⟨v, x, y.imp (fun z => z.mono g) fun ⟨l, o, p, q, r⟩ => ⟨l, o, p, q, r.mono g⟩⟩
    · rw [← b]; exact s.ln i d a
  · rcases inn (by simp) h1 with ⟨hi, a⟩ | ⟨_, a, b⟩
    · exact (noown hi a).elim
    · rcases inn (by simp) h2 with ⟨hi, a'⟩ | ⟨_, a', b'⟩
      · exact (noown hi a').elim
      · rw [← b] at w1; rw [← b'] at w2
        exact s.dis i j d d' l a a' w1 w2
/-- an object that is held, but not shown, changes -/
theorem OkS.rewrite {D : Addr} {o o' : HO} (s : OkS K L G B H σ ρ) (hB : B D = some o) (hG : G D = none) (hL : NL L D) : OkS K L G (upd B D o') (upd H D o') σ ρ := by
  refine ⟨fun a u q => ?_, fun i a u q => ?_, fun a u q => ?_, s.len, s.fz, fun i d q => ?_, s.ln, s.dis⟩
  · rw [upd_ne (ne_of_none q hG)]; exact s.gb a u q
  · have ha : a ≠ D := fun z => by subst z; exact hL i u q
    rw [upd_ne ha]; exact s.lb i a u q
  · exact ex_upd s.bh a u q
  · obtain ⟨l, u, a, b, c, e⟩ := s.ow i d q
    have hl : l ≠ D := fun z => by subst z; rw [hB] at b; cases b
    exact ⟨l, u, a, by rw [upd_ne hl]; exact b, by rw [upd_ne hl]; exact c, e⟩
end
def lcLoop (g : Env → R → O Unit) (t : Env → O Bool) (f : Env → O R) (vs : List Nat) : List R → Env → List D → Option (Env × List D)
  | [], ρ, acc => some (ρ, acc)
  | r :: rs, ρ, acc => match g ρ r with
    | .ok ρ1 _ => (match t ρ1 with
      | .ok ρ2 true => (match (f ρ2).bind esc with
        | .ok ρ3 d => if acc.length < 100000 then lcLoop g t f vs rs (wipeE ρ3 vs) (acc ++ [d]) else none
        | _ => none)
      | .ok ρ2 false => lcLoop g t f vs rs (wipeE ρ2 vs) acc
      | _ => none)
    | _ => none
def dLc (fi : Env → O (List R)) (g : Env → R → O Unit) (t : Env → O Bool) (f : Env → O R) (vs : List Nat) : Env → O R := fun ρ => (fi ρ).bind fun ρ items => if noOwnAt ρ vs = true then (match lcLoop g t f vs items (wipeE ρ vs) [] with
    | some (ρ', ds) => .ok (restoreE ρ ρ' vs) (.own (.lst ds))
    | none => .un) else .un
abbrev W0 : WX := fun _ _ _ _ => False
section
variable {X : Cx} {Wx : WX} {tg elt iter : Expr} {ifs : List Expr} {S vs : List Nat} {wi : TI} {fi : Env → O (List R)} {g0 : TG} {g : Env → R → O Unit} {tt : TT} {te : TE} {ft : Env → O Bool} {fe : Env → O R} {pos : Pos} {scope : Scope} {own : List (Str × Nat)}
theorem lc_sem (hsub : ∀ i, i ∈ S → i ∈ vs) (si : SemI X Wx wi fi) (sg : SemG X S g0 g) (st : SemT X W0 tt ft) (se : SemE X W0 te fe) : SemE X Wx (tLc wi g0 tt te vs) (dLc fi g ft fe vs) := fun L G B H σ ρ Q s p => by
  refine si L G B H σ ρ _ s ((Post.bind p).imp fun ρ1 items G1 B1 H1 _ q s1 J src DD hD => ?_)
  by_cases no : noOwnAt ρ1 vs = true
  · rw [if_pos no] at q
    cases eL : lcLoop g ft fe vs items (wipeE ρ1 vs) [] with
    | none => simp only [eL] at q; exact q.elim
    | some x =>
      obtain ⟨ρE, dsE⟩ := x
      simp only [eL] at q
      obtain ⟨Gd, Y, w, hG, hY⟩ := src
      have bD : B1 DD = none := none_of_ex s1.bh hD
      have gD : G1 DD = none := none_of_ex s1.gb bD
      have nD : NL L DD := s1.lb.nl bD
      -- what holds ahead of turn i
      refine lc_it w (fun i H' => ∃ G' B' ρ' acc accD, Grow G1 B1 G' B' ∧ B' DD = none ∧ G' DD = none ∧ Reps X.K G' accD acc ∧ OkS X.K L G' (upd B' DD (.lst acc)) H' (wipe σ vs) ρ' ∧ lcLoop g ft fe vs (items.drop i) ρ' accD = some (ρE, dsE))
        ⟨G1, B1, wipeE ρ1 vs, [], [], .refl, bD, gD, .nil, (s1.new hD).wiped, eL⟩ (fun i H' _ ⟨G', B', ρ', acc, accD, gr, b0, _, _, s', _⟩ => hG H' ((gr.bb.trans (Ex.new b0)).trans s'.bh)) ?_ ?_
      · rintro i x H2 H2' hi ⟨G2, B2, ρ2, acc, accD, gr, b0, g0', ra, s2, e2⟩ y
        obtain ⟨r, hr⟩ : ∃ r, items[i]? = some r := ⟨items[i], List.getElem?_eq_getElem hi⟩
        have ed : items.drop i = r :: items.drop (i + 1) := by
          rw [List.drop_eq_getElem_cons hi]
          rw [List.getElem?_eq_getElem hi] at hr
          cases hr
          rfl
        rw [ed] at e2
        unfold lcLoop at e2
        have gr2 : Grow G1 B1 G2 (upd B2 DD (.lst acc)) := gr.trans ⟨Ex.new b0, fun _ _ _ => rfl⟩
        obtain ⟨G3, B3, g3, k3⟩ := hY i r G2 _ H2 (wipe σ vs) ρ2 x H2' hr gr2 s2 y
        cases eg : g ρ2 r with
        | un => simp only [eg] at e2; cases e2
        | er ρ e => simp only [eg] at e2; cases e2
        | ok ρ3 u =>
          simp only [eg] at e2
          refine sg L G3 B3 H2' (wipe σ vs) ρ2 r x _ ρ3 u k3 eg fun G4 B4 σ4 g4 st4 s4 => ⟨wipe_stay st4 hsub, ?_⟩
          have chain : ∀ {G5 B5 : Hp}, Grow G4 B4 G5 B5 → Grow G2 (upd B2 DD (.lst acc)) G5 B5 := fun g5 => (g3.trans g4).trans g5
          -- the list so far stands; what a turn ends with
          have fin : ∀ {G5 B5 H5 : Hp} {ρ5 : Env} {acc' : List V} {accD' : List D}, Grow G4 B4 G5 B5 → OkS X.K L G5 B5 H5 σ4 ρ5 → Reps X.K G5 accD' acc' → lcLoop g ft fe vs (items.drop (i + 1)) (wipeE ρ5 vs) accD' = some (ρE, dsE) →
              ∃ G' B' ρ' acc accD, Grow G1 B1 G' B' ∧ B' DD = none ∧ G' DD = none ∧ Reps X.K G' accD acc ∧ OkS X.K L G' (upd B' DD (.lst acc)) (upd H5 DD (.lst acc')) (wipe σ vs) ρ' ∧ lcLoop g ft fe vs (items.drop (i + 1)) ρ' accD = some (ρE, dsE) := fun {G5 B5 H5 ρ5 acc' accD'} g5 s5 ra5 e5 => by
            have c := chain g5
            have hB5 : B5 DD = some (.lst acc) := c.bb DD _ upd_same
            have hG5 : G5 DD = none := (c.fr DD _ upd_same).trans g0'
            refine ⟨G5, del B5 DD, wipeE ρ5 vs, acc', accD', gr.trans ⟨ex_del c.bb b0, fun a u ha => c.fr a u (by rw [upd_ne (ne_of_none ha b0)]; exact ha)⟩, del_same, hG5, ra5, ?_, e5⟩
            have e : upd (del B5 DD) DD (.lst acc') = upd B5 DD (.lst acc') := by
              funext a
              by_cases h : a = DD
              · subst h; rw [upd_same, upd_same]
              · rw [upd_ne h, upd_ne h, del_ne h]
            rw [e, ← wipe_stay st4 hsub]
            exact (s5.rewrite hB5 hG5 nD).wiped
          cases et : ft ρ3 with
          | un => simp only [et] at e2; cases e2
          | er ρ e => simp only [et] at e2; cases e2
          | ok ρ4 k =>
            simp only [et] at e2
            refine st L G4 B4 H2' σ4 ρ3 _ s4 ?_
            rw [et]
            intro G5 B5 H5 g5 s5
            cases k with
            | true =>
              simp only at e2
              rw [if_pos rfl]
              cases ee : (fe ρ4).bind esc with
              | un => simp only [ee] at e2; cases e2
              | er ρ e => simp only [ee] at e2; cases e2
              | ok ρ6 d =>
                simp only [ee] at e2
                split at e2
                · rename_i hz
                  cases ef : fe ρ4 with
                  | un => rw [ef] at ee; cases ee
                  | er ρ e => rw [ef] at ee; cases ee
                  | ok ρ5 r5 =>
                    rw [ef] at ee
                    refine se L G5 B5 H5 σ4 ρ4 _ s5 ?_
                    rw [ef]
                    intro G6 B6 H6 g6 v k6
                    obtain ⟨ρ7, d7, G7, B7, e7, g7, k7, _⟩ := k6.escP (W := W0) (S := fun _ _ _ _ _ => True) (by rw [show esc ρ5 r5 = .ok ρ6 d from ee]; exact fun _ _ _ _ => trivial)
                    rw [show esc ρ5 r5 = .ok ρ6 d from ee] at e7
                    cases e7
                    obtain ⟨rd, k7⟩ := k7.fzI
                    have s7 := k7.state
                    have g57 := (g5.trans g6).trans g7
                    have c := chain g57
                    refine ⟨acc, s7.bh _ _ (c.bb DD _ upd_same), ?_, ?_⟩
                    · rw [ra.length]
                      exact Nat.lt_of_lt_of_le hz (by rw [sizeLine_eq]; decide)
                    · exact fin g57 s7 ((ra.mono (c.gg s2.gb)).append (.cons rd .nil)) e2
                · cases e2
            | false =>
              simp only at e2
              rw [if_neg Bool.false_ne_true]
              have c := chain g5
              have hB5 : B5 DD = some (.lst acc) := c.bb DD _ upd_same
              have e : upd H5 DD (.lst acc) = H5 := by
                funext a
                by_cases h : a = DD
                · subst h; rw [upd_same, s5.bh _ _ hB5]
                · rw [upd_ne h]
              have f := fin g5 s5 (ra.mono (c.gg s2.gb)) e2
              rw [e] at f
              exact f
      · rintro H2 ⟨G2, B2, ρ2, acc, accD, gr, b0, g0', ra, s2, e2⟩
        rw [List.drop_length] at e2
        unfold lcLoop at e2
        cases e2
        refine q G2 B2 H2 gr _ (.own g0' nD b0 (.lst ra) (.nil ?_))
        exact s2.restored s1 (gr.gg s1.gb) no
  · rw [if_neg no] at q; exact q.elim
def dYes : Env → O Bool := fun ρ => .ok ρ true
/-- a comprehension's block: the same readings over every context of it -/
abbrev Blk (X : Cx) (scope : Scope) (φ : Cx → Prop) : Prop := ∀ (s : Shared) (H : Hp) (C : Addr) (cl : List (Str × Addr)) (fp : List Addr), φ (X.blk s H scope (compEnvC scope cl C X.env) fp)
def DIfs (X : Cx) (Wx : WX) (ifs : List Expr) (t : TT) (f : Env → O Bool) : Prop := PTs X ifs t ∧ SemT X Wx t f
theorem dif_nil : DIfs X Wx [] tYes dYes := ⟨pts_nil, fun L G B H σ ρ Q s p => Post.okD p H s⟩
theorem dif_one {c : Expr} {f : Env → O Bool} (h : DT X Wx c tt f) : DIfs X Wx [c] tt f := ⟨pts_one h.1, h.2⟩
theorem de_lc (hc : X.calm = true) (hN : X.N.Nodup) (hi : DI X Wx tg iter wi fi) (ok : BlkOk X.N X.env.scope scope own) (hg : Blk X scope fun Y => DG Y S tg g0 g) (ht : Blk X scope fun Y => DIfs Y W0 ifs tt ft) (he : Blk X scope fun Y => DE Y W0 elt te fe)
    (hsub : ∀ i, i ∈ S → i ∈ own.map (·.2) := by decide) (hs : ∀ x, foldedSetIterable iter X.env x = pure x := by intro _; rfl) : DE X Wx (.ListComp elt [⟨tg, iter, ifs, 0⟩] scope pos) (tLc wi g0 tt te (own.map (·.2))) (dLc fi g ft fe (own.map (·.2))) := by
  obtain ⟨pi, si⟩ := hi
  refine ⟨pe_lc hc hN pi ok (fun s H C cl fp => (hg s H C cl fp).1) (fun s H C cl fp => (ht s H C cl fp).1) (fun s H C cl fp => (he s H C cl fp).1) hs, ?_⟩
  intro L G B H σ ρ Q s p
  -- the semantics of the parts hang on the written part alone
  have a : ∃ Y : Cx, Y.K = X.K ∧ SemG Y S g0 g ∧ SemT Y W0 tt ft ∧ SemE Y W0 te fe := ⟨X.blk X.s_0 H scope (compEnvC scope [] 0 X.env) [], rfl, (hg _ _ _ _ _).2.1, (ht _ _ _ _ _).2, (he _ _ _ _ _).2⟩
  obtain ⟨Y, eK, sg, st, se⟩ := a
  have sg : SemG X S g0 g := by unfold SemG at sg ⊢; rw [eK] at sg; exact sg
  have st : SemT X W0 tt ft := by unfold SemT at st ⊢; rw [eK] at st; exact st
  have se : SemE X W0 te fe := by unfold SemE at se ⊢; rw [eK] at se; exact se
  exact lc_sem hsub si sg st se L G B H σ ρ Q s p
theorem ds_setLc {i : Nat} {y : Str} {py spos : Pos} (hc : X.calm = true) (hN : X.N.Nodup) (hy : X.N[i]? = some y) (hyl : X.env.scope.names.lookup y = some .local)
    (hsw : swapsWith (.ListComp elt [⟨tg, iter, ifs, 0⟩] scope pos) (some (.Name y py)) spos.line X.env = pure true) (hi : DI X Wx tg iter wi fi) (ok : BlkOk X.N X.env.scope scope own) (hg : Blk X scope fun Y => DG Y S tg g0 g) (ht : Blk X scope fun Y => DIfs Y W0 ifs tt ft) (he : Blk X scope fun Y => DE Y W0 elt te fe)
    (hsub : ∀ i, i ∈ S → i ∈ own.map (·.2) := by decide) (hs : ∀ x, foldedSetIterable iter X.env x = pure x := by intro _; rfl) : DS X Wx [i] (.Assign [.Name y py] (.ListComp elt [⟨tg, iter, ifs, 0⟩] scope pos) spos) (tAsg (tLc wi g0 tt te (own.map (·.2))) (gName i)) (dAsg (store i) (dLc fi g ft fe (own.map (·.2)))) := by
  have e := de_lc (pos := pos) hc hN hi ok hg ht he hsub hs
  refine ⟨ps_setLc hc hN hy hyl hsw hi.1 ok (fun s H C cl fp => (hg s H C cl fp).1) (fun s H C cl fp => (ht s H C cl fp).1) (fun s H C cl fp => (he s H C cl fp).1) hs, fun L G B H σ ρ D s p => e.2 L G B H σ ρ _ s ((PostS.bind p).imp fun ρ1 r1 G1 B1 H1 _ q v k => ?_)⟩
  cases es : store i ρ1 r1 with
  | un => rw [es] at q; exact q.elim
  | er ρ1 e1 => exact (store_noer es).elim
  | ok ρ2 u =>
    rw [es] at q
    obtain ⟨G', B', g, s'⟩ := store_ok (i := i) k es
    exact q G' B' H1 _ g Stay.one s'
end
end DN
set_option maxHeartbeats 2000000
namespace DN
open PySem PySem.Spec PyProof.Rows L2
open Evl (Ex)
/-- a def's promise, where no guard is up -/
structure FnG (P : Program) (w : World) (K : PySem.W.Frag) (mg : Str → Option Value) (base : Heap) (k : Nat) (f : Addr) (fd : FuncData) (ps : List Str) (sp : Sp) : Prop where
  len : ∀ vs H Q E, sp vs H Q E → vs.length = ps.length
  run : ∀ (A : Around) (out : List PySem.Env) (s0 : Shared) (H0 : Hp) (ar : Args) (us : List Value) (vs : List V) (Q : VK) (E : XK), Room k A → A.guards = some [] → Env0 P w K mg base A out s0 H0 → BindsTo s0 fd ar (ps.zip us) →
    Vals vs us → sp vs H0 Q E → codeAny (model P w) A (.call (.ref f) ar) (CR (L2.CX P w) out P w H0 s0 Q E) s0
section
variable {P : Program} {w : World} {K : PySem.W.Frag} {mg : Str → Option Value} {base : Heap}
theorem FnG.mono {j k : Nat} {f : Addr} {fd : FuncData} {ps : List Str} {sp : Sp} (F : FnG P w K mg base j f fd ps sp) (h : j ≤ k) : FnG P w K mg base k f fd ps sp :=
  ⟨F.len, fun A out s0 H0 ar us vs Q E r => F.run A out s0 H0 ar us vs Q E (r.mono h)⟩
end
section
variable {X : Cx} {k : Nat} {f : Addr} {fd : FuncData} {ps : List Str} {sp : Sp} {E : L2.St → XK} {x : Str} {p pos : Pos} {e : Expr} {es : List Expr} {t : TA}
theorem run_G {pins : List (Addr × Obj)} {σ : L2.St} {H : Hp} {s : Shared} {Q : VK} {ar : Args} {us : List Value} {vs : List V} (F : FnG X.prog X.w X.K X.mg X.base k f fd ps sp) (hr : Room k X.A) (hG : X.A.guards = some []) (hb : BindsTo s fd ar (ps.zip us))
    (hx : PassesAt (L2.CX X.prog X.w) X σ (E σ)) (I : L2.Inv X pins σ H s) (r : Vals vs us) (h : sp vs H Q (E σ)) : codeAny (model X.prog X.w) X.A (.call (.ref f) ar) (fun r s' => match r with
      | .ok (.ret u) => EP X pins σ Q u s'
      | .ok _ => False
      | .error e => X.xe e s') s := by
  refine codeAny_mono (F.run X.A X.stack s H ar us vs Q (E σ) hr hG I.env0 hb r h) fun out s1 q => ?_
  cases out with
  | error e => exact hx pins H s e s1 I q
  | ok fl =>
    cases fl with
    | ret u => exact I.after q
    | next => exact q
    | brk => exact q
    | cont => exact q
theorem wp_G {pins : List (Addr × Obj)} {σ : L2.St} {H : Hp} {s : Shared} {Q : VK} {us ds : List Value} {vs : List V} (F : FnG X.prog X.w X.K X.mg X.base k f fd ps sp) (hr : Room k X.A) (hG : X.A.guards = some []) (hb : BindsTo s fd ⟨us, []⟩ (ps.zip ds))
    (hx : PassesAt (L2.CX X.prog X.w) X σ (E σ)) (I : L2.Inv X pins σ H s) (r : Vals vs ds) (h : sp vs H Q (E σ)) : wpAny (model X.prog X.w) X.A (call (.ref f) us) (EP X pins σ Q) X.xe s := by
  refine wpAny_call (codeAny_mono (run_G F hr hG hb hx I r h) fun out s1 q => ?_)
  cases out with
  | error e => exact q
  | ok fl =>
    cases fl with
    | ret u => exact q
    | next => exact q.elim
    | brk => exact q.elim
    | cont => exact q.elim
/-- f(e, ..): the arguments by place, then the defaults -/
def tCallG (sp : Sp) (dv : List V) (E : L2.St → XK) (t : TA) : TE := fun σ H Q => t σ H fun vs H1 => sp (vs ++ dv) H1 Q (E σ)
theorem pe_callG {ds : List Value} {dv : List V} (F : FnG X.prog X.w X.K X.mg X.base k f fd ps sp) (hr : Room k X.A) (hG : X.A.guards = some []) (hg : Gl X x) (hm : X.mg x = some (.ref f)) (hk : PySem.W.keepIn X.K (.ref f) = true) (hb : Binds X.K fd ps ds) (hd : Vals dv ds)
    (hx : ∀ σ, PassesAt (L2.CX X.prog X.w) X σ (E σ)) (ha : PA X (e :: es) t) (hdb : (x == ("__debug__" : Str)) = false := by decide) (he : starEach (e :: es) X.env = (false, eval e X.env) :: starEach es X.env := by rfl)
    (hpl : (backTo pos (starEach es X.env)).any (·.1) = false := by rfl) : PE X (.Call (.Name x p) (e :: es) [] pos) (tCallG sp dv E t) := by
  refine ⟨fun pins s σ H Q I h => wpAny_Call_Name_kw (ld_glob I hg hm (PySem.W.callWith_K (h₀ := X.base) I.ok.mod.kin hk (thn (ha.run pos pins s σ H _ I h) fun us s1 hq => ?_) he hpl) hdb)⟩
  obtain ⟨vs, H1, I1, rv, q⟩ := hq
  have rd := rv.append hd
  exact ⟨I1.kIn, wp_G F hr hG (hb s1 us I1.kIn (by rw [← rd.length]; exact F.len _ _ _ _ q)) (hx σ) I1 rd q⟩
end
end DN
set_option maxHeartbeats 2000000
namespace DN
open PySem PySem.Spec PyProof.Rows L2
open Evl (Ex)
/-- how an argument is handed on: frozen, to be read, to be changed -/
inductive Md where
  | fz | ln | io
  deriving DecidableEq
inductive FO where
  | ok (outs : List D) (r : R) | er (outs : List D) (e : Er) | un
def Arg1 (K : PySem.W.Frag) (G B H : Hp) : Md → D → V → Prop
  | .fz, d, v => Rep K G d v
  | .ln, d, v => Rep K G d v ∨ ∃ l o, v = .ref l ∧ B l = some o ∧ RepO K G d o
  | .io, d, v => ∃ l o, v = .ref l ∧ B l = none ∧ H l = some o ∧ RepO K G d o
structure ArgsOk (K : PySem.W.Frag) (G B H : Hp) (ms : List Md) (ds : List D) (vs : List V) : Prop where
  gb : Ex G B
  bh : Ex B H
  ld : ds.length = ms.length
  lv : vs.length = ms.length
  one : ∀ (i : Nat) m d v, ms[i]? = some m → ds[i]? = some d → vs[i]? = some v → Arg1 K G B H m d v
  dis : ∀ (i j : Nat) l, ms[i]? = some .io → ms[j]? = some .io → vs[i]? = some (.ref l) → vs[j]? = some (.ref l) → i = j
/-- the values of the arguments that are changed -/
def iovs : List Md → List V → List V
  | .io :: ms, v :: vs => v :: iovs ms vs
  | _ :: ms, _ :: vs => iovs ms vs
  | _, _ => []
abbrev noL : Lent := fun _ _ _ => False
def spM (K : PySem.W.Frag) (ms : List Md) (m : List D → FO) : Sp := fun vs H Q E => ∃ G B ds, ArgsOk K G B H ms ds vs ∧ match m ds with
  | .ok outs r => ∀ G' B' H' v, Grow G B G' B' → OkVs K noL G' H' [] [] B' (outs.map .own ++ [r]) (iovs ms vs ++ [v]) → Q v H'
  | .er outs e => ∀ G' B' H' c d, Grow G B G' B' → OkVs K noL G' H' [] [] B' (outs.map .own) (iovs ms vs) → OkEr K G' e c d → E c d H'
  | .un => False
def slotM : Md → D → Sl
  | .fz, d => .fz d
  | .ln, d => .ln d
  | .io, d => .own d
def env0 (ms : List Md) (n : Nat) (ds : List D) : Env := List.zipWith slotM ms ds ++ List.replicate (n - ds.length) .un
section
variable {K : PySem.W.Frag} {L : Lent} {G G' B B' H : Hp} {σ : L2.St} {ρ ρ' : Env} {rs rs' : List R} {vs : List V} {d : D} {v : V} {r : R} {i : Nat} {l : Addr} {o : HO}
theorem start_get {N : List Str} {vs : List V} {i : Nat} (h : i < vs.length) : (L2.start N vs)[i]? = vs[i]?.map some := by
  unfold L2.start
  rw [List.getElem?_append_left (by simpa using h), List.getElem?_map]
theorem ArgsOk.start {ms : List Md} {ds : List D} {N : List Str} (a : ArgsOk K G B H ms ds vs) (hN : vs.length ≤ N.length) :
    ∃ L : Lent, OkS K L G B H (L2.start N vs) (env0 ms N.length ds) := by
  have hget : ∀ {i : Nat} {x : Sl}, x ≠ .un → (env0 ms N.length ds)[i]? = some x → ∃ m d v, ms[i]? = some m ∧ ds[i]? = some d ∧ vs[i]? = some v ∧ x = slotM m d ∧ (L2.start N vs)[i]? = some (some v) := fun {i x} hx e => by
    have hl : (List.zipWith slotM ms ds).length = ms.length := by rw [List.length_zipWith, a.ld, Nat.min_self]
    unfold env0 at e
    by_cases hi : i < ms.length
    · rw [List.getElem?_append_left (by omega), List.getElem?_zipWith] at e
      have h1 : i < ds.length := by rw [a.ld]; exact hi
      have h2 : i < vs.length := by rw [a.lv]; exact hi
      rw [List.getElem?_eq_getElem hi, List.getElem?_eq_getElem h1] at e
      refine ⟨_, _, vs[i], List.getElem?_eq_getElem hi, List.getElem?_eq_getElem h1, List.getElem?_eq_getElem h2, (Option.some.inj e).symm, ?_⟩
      rw [start_get h2, List.getElem?_eq_getElem h2]
      rfl
    · rw [List.getElem?_append_right (by omega), List.getElem?_replicate] at e
      split at e
      · cases e; exact absurd rfl hx
      · cases e
  refine ⟨fun i l o => ms[i]? = some .ln ∧ vs[i]? = some (.ref l) ∧ B l = some o, a.gb, fun i l o q => q.2.2, a.bh, ?_, fun i d e => ?_, fun i d e => ?_, fun i d e => ?_, fun i j d d' l e1 e2 w1 w2 => ?_⟩
  · unfold L2.start env0
    simp only [List.length_append, List.length_map, List.length_replicate, List.length_zipWith, a.ld, a.lv, Nat.min_self]
  · obtain ⟨m, d', v, h1, h2, h3, h4, h5⟩ := hget (by simp) e
    have := a.one i m d' v h1 h2 h3
    cases m <;> simp only [slotM, Sl.fz.injEq, reduceCtorEq] at h4
    subst h4
    exact ⟨v, h5, this⟩
  · obtain ⟨m, d', v, h1, h2, h3, h4, h5⟩ := hget (by simp) e
    have := a.one i m d' v h1 h2 h3
    cases m <;> simp only [slotM, Sl.own.injEq, reduceCtorEq] at h4
    subst h4
    obtain ⟨l, o, ev, b, c, r⟩ := this
    subst ev
    exact ⟨l, o, h5, b, c, r⟩
  · obtain ⟨m, d', v, h1, h2, h3, h4, h5⟩ := hget (by simp) e
    have := a.one i m d' v h1 h2 h3
    cases m <;> simp only [slotM, Sl.ln.injEq, reduceCtorEq] at h4
    subst h4
    refine ⟨v, h5, this.imp id fun ⟨l, o, ev, b, r⟩ => ?_⟩
    subst ev
    exact ⟨l, o, rfl, ⟨h1, h3, b⟩, r⟩
  · obtain ⟨m, d1, v, h1, h2, h3, h4, h5⟩ := hget (by simp) e1
    obtain ⟨m', d2, v', h1', h2', h3', h4', h5'⟩ := hget (by simp) e2
    rw [h5] at w1; cases w1
    rw [h5'] at w2; cases w2
    cases m <;> simp only [slotM, reduceCtorEq] at h4
    cases m' <;> simp only [slotM, reduceCtorEq] at h4'
    exact a.dis i j l h1 h1' h3 h3'
/-- a slot's own object is taken out -/
theorem OkS.takeSlot (s : OkS K L G B H σ ρ) (hi : ρ[i]? = some (.own d)) (h1 : σ[i]? = some (some (.ref l))) (h2 : B l = none) (h3 : H l = some o) : OkS K L G (upd B l o) H σ (ρ.set i .un) := by
  have inn : ∀ {j : Nat} {x : Sl}, x ≠ .un → (ρ.set i .un)[j]? = some x → i ≠ j ∧ ρ[j]? = some x := fun {j x} hx e => by
    rw [List.getElem?_set] at e
    by_cases h : i = j
    · rw [if_pos h] at e
      split at e
      · cases e; exact absurd rfl hx
      · cases e
    · rw [if_neg h] at e
      exact ⟨h, e⟩
  refine ⟨s.gb.trans (Ex.new h2), s.lb.ex (Ex.new h2), fun b u q => ?_, by rw [List.length_set]; exact s.len, fun j d' e => s.fz j d' (inn (by simp) e).2, fun j d' e => ?_, fun j d' e => s.ln j d' (inn (by simp) e).2,
    fun j k dj dk a e1 e2 w1 w2 => s.dis j k dj dk a (inn (by simp) e1).2 (inn (by simp) e2).2 w1 w2⟩
  · by_cases hb : b = l
    · subst hb; rw [upd_same] at q; cases q; exact h3
    · rw [upd_ne hb] at q; exact s.bh b u q
  · obtain ⟨hne, e⟩ := inn (by simp) e
    obtain ⟨m, u, a, b, c, r⟩ := s.ow j d' e
    have hm : m ≠ l := fun z => by subst z; exact hne (s.dis i j d d' m hi e h1 a)
    exact ⟨m, u, a, by rw [upd_ne hm]; exact b, c, r⟩
theorem OkVs.takeSlot (h : OkVs K L G H σ ρ B rs vs) (hi : ρ[i]? = some (.own d)) : ∃ l o, σ[i]? = some (some (.ref l)) ∧ G l = none ∧ NL L l ∧ B l = none ∧ H l = some o ∧ RepO K G d o ∧ OkVs K L G H σ (ρ.set i .un) (upd B l o) rs vs := by
  obtain ⟨l, o, h1, h2, h3, h4⟩ := h.slotOwn hi
  refine ⟨l, o, h1, none_of_ex h.base.1 h2, h.base.2.1.nl h2, h2, h3, h4, ?_⟩
  have key : ∀ {B : Hp} {rs : List R} {vs : List V}, OkVs K L G H σ ρ B rs vs → OkVs K L G H σ (ρ.set i .un) (upd B l o) rs vs := by
    intro B rs vs h
    induction h with
    | nil s =>
      obtain ⟨l', o', a, b, c, _⟩ := s.ow i d hi
      rw [h1] at a; cases a
      exact .nil (s.takeSlot hi h1 b h3)
    | fz a _ ih => exact .fz a ih
    | bor a _ ih => exact .bor a ih
    | @own B m u e rs vs g0 l0 b0 a k ih =>
      obtain ⟨l', o', w1, w2, _⟩ := k.slotOwn hi
      rw [h1] at w1; cases w1
      have hm : l ≠ m := fun z => by subst z; rw [upd_same] at w2; cases w2
      refine .own g0 l0 (by rw [upd_ne (Ne.symm hm)]; exact b0) a ?_
      rw [upd_comm hm]
      exact ih
    | @tp B m qs ws rs vs g0 l0 b0 n k ih =>
      obtain ⟨l', o', w1, w2, _⟩ := k.slotOwn hi
      rw [h1] at w1; cases w1
      have hm : l ≠ m := fun z => by subst z; rw [upd_same] at w2; cases w2
      refine .tp g0 l0 (by rw [upd_ne (Ne.symm hm)]; exact b0) n ?_
      rw [upd_comm hm]
      exact ih
  exact key h
/-- what is handed back out of the slots -/
def closeL (ρ : Env) : List R → Option (Env × List R)
  | [] => some (ρ, [])
  | .fz d :: rs => (closeL ρ rs).map fun x => (x.1, .fz d :: x.2)
  | .own d :: rs => (closeL ρ rs).map fun x => (x.1, .own d :: x.2)
  | .bor i :: rs => match ρ[i]? with
    | some (.own d) => (closeL (ρ.set i .un) rs).map fun x => (x.1, .own d :: x.2)
    | _ => match escR ρ (.bor i) with
      | some (ρ1, d) => (closeL ρ1 rs).map fun x => (x.1, .fz d :: x.2)
      | none => none
  | .tp qs :: rs => match escR ρ (.tp qs) with
    | some (ρ1, d) => (closeL ρ1 rs).map fun x => (x.1, .fz d :: x.2)
    | none => none
def closeR (ρ : Env) : R → Option (Env × R)
  | .tp qs => (closeL ρ qs).map fun x => (x.1, .tp x.2)
  | r => match closeL ρ [r] with
    | some (ρ', [r']) => some (ρ', r')
    | _ => none
theorem closeL_ok : ∀ {rs rs' : List R} {vs : List V} {G B : Hp} {ρ ρ' : Env}, OkVs K L G H σ ρ B rs vs → closeL ρ rs = some (ρ', rs') → ∃ G' B', Grow G B G' B' ∧ OkVs K L G' H σ ρ' B' rs' vs ∧ ∀ r ∈ rs', noBor r = true
  | [], rs', vs, G, B, ρ, ρ', k, e => by
    cases e
    exact ⟨G, B, .refl, k, by simp⟩
  | r :: rs, rs', vs, G, B, ρ, ρ', k, e => by
    have hl := k.length
    cases vs with
    | nil => simp at hl
    | cons v vs =>
      have fzc : ∀ {G1 B1 : Hp} {ρ1 : Env} {d : D}, Grow G B G1 B1 → OkVs K L G1 H σ ρ1 B1 (.fz d :: rs) (v :: vs) → (closeL ρ1 rs).map (fun x => (x.1, R.fz d :: x.2)) = some (ρ', rs') →
          ∃ G' B', Grow G B G' B' ∧ OkVs K L G' H σ ρ' B' rs' (v :: vs) ∧ ∀ r ∈ rs', noBor r = true := fun {G1 B1 ρ1 d} g1 k1 e => by
        cases q : closeL ρ1 rs with
        | none => rw [q] at e; cases e
        | some x =>
          rw [q] at e; cases e
          obtain ⟨a, b⟩ := k1.fzI
          obtain ⟨G2, B2, g2, k2, n2⟩ := closeL_ok b (by rw [q])
          exact ⟨G2, B2, g1.trans g2, .fz (a.mono (g2.gg b.base.1)) k2, fun r hr => by
            rcases List.mem_cons.mp hr with rfl | hr
            · rfl
            · exact n2 r hr⟩
      have owc : ∀ {ρ1 : Env} {d : D}, OkVs K L G H σ ρ1 B (.own d :: rs) (v :: vs) → (closeL ρ1 rs).map (fun x => (x.1, R.own d :: x.2)) = some (ρ', rs') →
          ∃ G' B', Grow G B G' B' ∧ OkVs K L G' H σ ρ' B' rs' (v :: vs) ∧ ∀ r ∈ rs', noBor r = true := fun {ρ1 d} k1 e => by
        cases q : closeL ρ1 rs with
        | none => rw [q] at e; cases e
        | some x =>
          rw [q] at e; cases e
          cases k1 with
          | @own _ l o _ _ _ g0 l0 b0 a kk =>
            obtain ⟨G2, B2, g2, k2, n2⟩ := closeL_ok kk (by rw [q])
            have hl2 : B2 l = some o := g2.bb l o upd_same
            refine ⟨G2, del B2 l, ⟨ex_del g2.bb b0, fun p u hp => g2.fr p u (by rw [upd_ne (ne_of_none hp b0)]; exact hp)⟩, ?_, fun r hr => ?_⟩
            · refine .own ((g2.fr l o upd_same).trans g0) l0 del_same (a.mono (g2.gg kk.base.1)) ?_
              rw [upd_del hl2]
              exact k2
            · rcases List.mem_cons.mp hr with rfl | hr
              · rfl
              · exact n2 r hr
      have esc : ∀ {q : R}, OkVs K L G H σ ρ B (q :: rs) (v :: vs) → (match escR ρ q with | some (ρ1, d) => (closeL ρ1 rs).map (fun x => (x.1, R.fz d :: x.2)) | none => none) = some (ρ', rs') →
          ∃ G' B', Grow G B G' B' ∧ OkVs K L G' H σ ρ' B' rs' (v :: vs) ∧ ∀ r ∈ rs', noBor r = true := fun {q} k e => by
        cases h : escR ρ q with
        | none => simp only [h] at e; cases e
        | some x =>
          simp only [h] at e
          obtain ⟨G1, B1, g1, k1⟩ := k.esc h
          exact fzc g1 k1 e
      cases r with
      | fz d => exact fzc .refl k (by simpa only [closeL] using e)
      | own d => exact owc k (by simpa only [closeL] using e)
      | tp qs => exact esc k (by simpa only [closeL] using e)
      | bor j =>
        unfold closeL at e
        split at e
        · rename_i d hj
          cases k with
          | bor hv k =>
            obtain ⟨l, o, h1, hg, hL, hb, ho, ro, kk⟩ := k.takeSlot hj
            rw [hv] at h1; cases h1
            exact owc (.own hg hL hb ro kk) e
        · exact esc k e
theorem closeR_ok (k : OkVs K L G H σ ρ B [r] [v]) {r' : R} (e : closeR ρ r = some (ρ', r')) : ∃ G' B', Grow G B G' B' ∧ OkVs K L G' H σ ρ' B' [r'] [v] ∧ (∀ qs, r' = .tp qs → ∀ q ∈ qs, noBor q = true) ∧ ∀ i, r' ≠ .bor i := by
  have flat : ∀ {r : R}, (∀ qs, r ≠ .tp qs) → OkVs K L G H σ ρ B [r] [v] → (match closeL ρ [r] with | some (ρ', [r']) => some (ρ', r') | _ => none) = some (ρ', r') →
      ∃ G' B', Grow G B G' B' ∧ OkVs K L G' H σ ρ' B' [r'] [v] ∧ (∀ qs, r' = .tp qs → ∀ q ∈ qs, noBor q = true) ∧ ∀ i, r' ≠ .bor i := fun {r} hr k e => by
    cases q : closeL ρ [r] with
    | none => simp only [q] at e; cases e
    | some x =>
      obtain ⟨ρ1, l1⟩ := x
      obtain ⟨G', B', g, k', n⟩ := closeL_ok k q
      simp only [q] at e
      split at e
      · rename_i heq
        cases heq
        cases e
        have := n r' List.mem_cons_self
        refine ⟨G', B', g, k', fun qs z => ?_, fun i z => ?_⟩
        · subst z; simp [noBor] at this
        · subst z; simp [noBor] at this
      · cases e
  cases r with
  | tp qs =>
    unfold closeR at e
    cases q : closeL ρ qs with
    | none => simp only [q] at e; cases e
    | some x =>
      obtain ⟨ρ1, l1⟩ := x
      simp only [q, Option.map_some] at e
      cases e
      cases k with
      | @tp _ p _ ws _ _ g0 l0 b0 n k =>
        rw [List.append_nil, List.append_nil] at k
        obtain ⟨G', B', g, k', nb⟩ := closeL_ok k q
        have hp : B' p = some (.tup ws) := g.bb p _ upd_same
        refine ⟨G', del B' p, ⟨ex_del g.bb b0, fun a u ha => g.fr a u (by rw [upd_ne (ne_of_none ha b0)]; exact ha)⟩, ?_, fun qs z => ?_, fun i z => by cases z⟩
        · refine .tp ((g.fr p _ upd_same).trans g0) l0 del_same k'.length ?_
          rw [upd_del hp, List.append_nil, List.append_nil]
          exact k'
        · cases z; exact nb
  | fz d => exact flat (by simp) k e
  | own d => exact flat (by simp) k e
  | bor j => exact flat (by simp) k e
/-- the objects of the parameters that may be changed, in a row -/
def outsOf (ρ : Env) : List Md → Nat → Option (List D)
  | [], _ => some []
  | .io :: ms, i => match ρ[i]? with
    | some (.own d) => (outsOf ρ ms (i + 1)).map (d :: ·)
    | _ => none
  | _ :: ms, i => outsOf ρ ms (i + 1)
theorem outsOf_set : ∀ {ms : List Md} {n i : Nat} {x : Sl}, i < n → outsOf (ρ.set i x) ms n = outsOf ρ ms n
  | [], _, _, _, _ => rfl
  | m :: ms, n, i, x, h => by
    cases m with
    | fz => exact outsOf_set (ms := ms) (by omega)
    | ln => exact outsOf_set (ms := ms) (by omega)
    | io =>
      unfold outsOf
      rw [List.getElem?_set_ne (by omega), outsOf_set (ms := ms) (n := n + 1) (by omega)]
theorem outs_take : ∀ {ms : List Md} {ws : List V} {n : Nat} {outs : List D} {ρ : Env} {B : Hp}, OkVs K L G H σ ρ B rs vs → (∀ (i : Nat) v, ms[i]? = some .io → ws[i]? = some v → σ[n + i]? = some (some v)) → ws.length = ms.length → outsOf ρ ms n = some outs →
    ∃ ρ', OkVs K L G H σ ρ' B (outs.map .own ++ rs) (iovs ms ws ++ vs)
  | [], ws, n, outs, ρ, B, k, hw, hl, e => by
    cases e
    cases ws with
    | nil => exact ⟨ρ, k⟩
    | cons => simp at hl
  | m :: ms, ws, n, outs, ρ, B, k, hw, hl, e => by
    cases ws with
    | nil => simp at hl
    | cons w ws =>
      have hw' : ∀ (i : Nat) v, ms[i]? = some .io → ws[i]? = some v → σ[n + 1 + i]? = some (some v) := fun i v a b => by
        have := hw (i + 1) v (by simpa using a) (by simpa using b)
        rw [Nat.add_assoc, Nat.add_comm 1 i]; exact this
      cases m with
      | fz => exact outs_take (ms := ms) (ws := ws) (n := n + 1) k hw' (by simpa using hl) (by simpa only [outsOf] using e)
      | ln => exact outs_take (ms := ms) (ws := ws) (n := n + 1) k hw' (by simpa using hl) (by simpa only [outsOf] using e)
      | io =>
        unfold outsOf at e
        split at e
        · rename_i d hd
          cases q : outsOf ρ ms (n + 1) with
          | none => rw [q] at e; cases e
          | some outs1 =>
            rw [q] at e; cases e
            obtain ⟨l, o, h1, hg, hL, hb, ho, ro, kk⟩ := k.takeSlot hd
            have hv := hw 0 w (by simp) (by simp)
            rw [Nat.add_zero] at hv
            rw [h1] at hv; cases hv
            obtain ⟨ρ', k'⟩ := outs_take (ms := ms) (ws := ws) (n := n + 1) kk hw' (by simpa using hl) (by rw [outsOf_set (by omega)]; exact q)
            exact ⟨ρ', .own hg hL hb ro k'⟩
        · cases e
/-- nothing of a slot is left: the slots are forgotten -/
def clR : R → Bool
  | .fz _ | .own _ => true
  | .tp qs => qs.all noBor
  | _ => false
theorem OkVs.forget (h : OkVs K L G H σ ρ B rs vs) (hn : ∀ r ∈ rs, clR r = true) : OkVs K noL G H [] [] B rs vs := by
  induction h with
  | nil s => exact .nil ⟨s.gb, fun _ _ _ q => q.elim, s.bh, rfl, by simp, by simp, by simp, by simp⟩
  | fz a _ ih => exact .fz a (ih fun r hr => hn r (List.mem_cons_of_mem _ hr))
  | own g l b a _ ih => exact .own g (fun _ _ q => q) b a (ih fun r hr => hn r (List.mem_cons_of_mem _ hr))
  | bor _ _ _ => exact absurd (hn _ List.mem_cons_self) (by simp [clR])
  | @tp B p qs ws rs vs g l b n _ ih =>
    refine .tp g (fun _ _ q => q) b n (ih fun r hr => ?_)
    rcases List.mem_append.mp hr with hr | hr
    · have := hn _ List.mem_cons_self
      have := List.all_eq_true.mp this r hr
      cases r <;> simp_all [noBor, clR]
    · exact hn r (List.mem_cons_of_mem _ hr)
end
/-- a def by its body -/
def denF (ms : List Md) (n : Nat) (body : Env → O Fl) (ds : List D) : FO := match body (env0 ms n ds) with
  | .ok ρ (.rt r) => (match closeR ρ r with
    | some (ρ', r') => (match outsOf ρ' ms 0 with
      | some outs => .ok outs r'
      | none => .un)
    | none => .un)
  | .ok ρ .nx => (match outsOf ρ ms 0 with
    | some outs => .ok outs (.fz .non)
    | none => .un)
  | .er ρ e => (match outsOf ρ ms 0 with
    | some outs => .er outs e
    | none => .un)
  | _ => .un
theorem Stay.get {S : List Nat} {N : List Str} {vs : List V} {σ' : L2.St} {i : Nat} {v : V} (h : Stay S (L2.start N vs) σ') (hi : i ∉ S) (e : vs[i]? = some v) : σ'[i]? = some (some v) := by
  rw [h.2 i hi, start_get (List.getElem?_eq_some_iff.mp e).1, e]
  rfl
end DN
set_option maxHeartbeats 2000000
namespace DN
open PySem PySem.Spec PyProof.Rows L2
open Evl (Ex)
def isTp : R → Bool
  | .tp _ => true
  | _ => false
def passA (ρ : Env) : List Md → List R → Option (Env × List R)
  | [], [] => some (ρ, [])
  | m :: ms, r :: rs => if (decide (m = .fz) || isTp r) = true then (match escR ρ r with
      | some (ρ1, d) => (passA ρ1 ms rs).map fun x => (x.1, .fz d :: x.2)
      | none => none) else (passA ρ ms rs).map fun x => (x.1, r :: x.2)
  | _, _ => none
def passB (ρ : Env) : List Md → List R → Option (List D)
  | [], [] => some []
  | .io :: ms, r :: rs => (match r with
    | .own d => (passB ρ ms rs).map (d :: ·)
    | .bor i => (match ρ[i]? with
      | some (.own d) => (passB ρ ms rs).map (d :: ·)
      | _ => none)
    | _ => none)
  | _ :: ms, r :: rs => match useR ρ r with
    | some d => (passB ρ ms rs).map (d :: ·)
    | none => none
  | _, _ => none
/-- the slots that are changed; those that are read -/
def ioSl : List Md → List R → List Nat
  | .io :: ms, .bor i :: rs => i :: ioSl ms rs
  | _ :: ms, _ :: rs => ioSl ms rs
  | _, _ => []
def lnSl : List Md → List R → List Nat
  | .ln :: ms, .bor i :: rs => i :: lnSl ms rs
  | _ :: ms, _ :: rs => lnSl ms rs
  | _, _ => []
def ioOk (ms : List Md) (rs : List R) : Bool := decide ((ioSl ms rs).Nodup) && (ioSl ms rs).all fun i => decide (i ∉ lnSl ms rs)
def putIO (ρ : Env) : List Md → List R → List D → Env
  | .io :: ms, .bor i :: rs, d :: outs => putIO (ρ.set i (.own d)) ms rs outs
  | .io :: ms, _ :: rs, _ :: outs => putIO ρ ms rs outs
  | _ :: ms, _ :: rs, outs => putIO ρ ms rs outs
  | _, _, _ => ρ
def unIO (ρ : Env) (is : List Nat) : Env := is.foldl (fun ρ i => ρ.set i .un) ρ
def callM (ms : List Md) (m : List D → FO) (ρ : Env) (rs : List R) : O R := match passA ρ ms rs with
  | some (ρ1, rs1) => if ioOk ms rs1 = true then (match passB ρ1 ms rs1 with
    | some ds => (match m ds with
      | .ok outs r => .ok (putIO (unIO ρ1 (ioSl ms rs1)) ms rs1 outs) r
      | .er outs e => .er (putIO (unIO ρ1 (ioSl ms rs1)) ms rs1 outs) e
      | .un => .un)
    | none => .un) else .un
  | none => .un
section
variable {K : PySem.W.Frag} {L : Lent} {G G' B B' H H' : Hp} {σ : L2.St} {ρ ρ' : Env} {rs rs' : List R} {vs : List V} {d : D} {v : V} {r : R} {i : Nat} {l : Addr} {o : HO}
theorem passA_len : ∀ {ms : List Md} {rs rs' : List R} {ρ ρ' : Env}, passA ρ ms rs = some (ρ', rs') → rs'.length = ms.length ∧ rs.length = ms.length
  | [], [], _, _, _, e => by cases e; exact ⟨rfl, rfl⟩
  | [], _ :: _, _, _, _, e => by cases e
  | _ :: _, [], _, _, _, e => by cases e
  | m :: ms, r :: rs, rs', ρ, ρ', e => by
    unfold passA at e
    split at e
    · split at e
      · rename_i ρ1 d _
        cases q : passA ρ1 ms rs with
        | none => rw [q] at e; cases e
        | some x => rw [q] at e; cases e; have := passA_len q; simp [this.1, this.2]
      · cases e
    · cases q : passA ρ ms rs with
      | none => rw [q] at e; cases e
      | some x => rw [q] at e; cases e; have := passA_len q; simp [this.1, this.2]
theorem passA_ok : ∀ {ms : List Md} {rs rs' : List R} {vs : List V} {G B : Hp} {ρ ρ' : Env}, OkVs K L G H σ ρ B rs vs → passA ρ ms rs = some (ρ', rs') → ∃ G' B', Grow G B G' B' ∧ OkVs K L G' H σ ρ' B' rs' vs ∧ (∀ r ∈ rs', isTp r = false) ∧
    ∀ (i : Nat) r, ms[i]? = some .fz → rs'[i]? = some r → ∃ d, r = .fz d
  | [], [], rs', vs, G, B, ρ, ρ', k, e => by cases e; exact ⟨G, B, .refl, k, by simp, by simp⟩
  | [], _ :: _, _, _, _, _, _, _, _, e => by cases e
  | _ :: _, [], _, _, _, _, _, _, _, e => by cases e
  | m :: ms, r :: rs, rs', vs, G, B, ρ, ρ', k, e => by
    have hl := k.length
    cases vs with
    | nil => simp at hl
    | cons v vs =>
      unfold passA at e
      split at e
      · split at e
        · rename_i ρ1 d he
          cases q : passA ρ1 ms rs with
          | none => rw [q] at e; cases e
          | some x =>
            rw [q] at e; cases e
            obtain ⟨G1, B1, g1, k1⟩ := k.esc he
            obtain ⟨a, b⟩ := k1.fzI
            obtain ⟨G2, B2, g2, k2, n2, f2⟩ := passA_ok b (by rw [q])
            refine ⟨G2, B2, g1.trans g2, .fz (a.mono (g2.gg b.base.1)) k2, fun r hr => ?_, fun i r h1 h2 => ?_⟩
            · rcases List.mem_cons.mp hr with rfl | hr
              · rfl
              · exact n2 r hr
            · cases i with
              | zero => simp at h2; exact ⟨d, h2.symm⟩
              | succ i => exact f2 i r (by simpa using h1) (by simpa using h2)
        · cases e
      · rename_i hc
        simp only [Bool.or_eq_true, decide_eq_true_eq, not_or, Bool.not_eq_true] at hc
        cases q : passA ρ ms rs with
        | none => rw [q] at e; cases e
        | some x =>
          rw [q] at e; cases e
          have nt : ∀ {G2 B2 : Hp}, (∀ r ∈ x.2, isTp r = false) → ∀ r' ∈ r :: x.2, isTp r' = false := fun n2 r' hr => by
            rcases List.mem_cons.mp hr with rfl | hr
            · exact hc.2
            · exact n2 r' hr
          have nf : (∀ (i : Nat) r, ms[i]? = some Md.fz → x.2[i]? = some r → ∃ d, r = R.fz d) → ∀ (i : Nat) r', (m :: ms)[i]? = some Md.fz → (r :: x.2)[i]? = some r' → ∃ d, r' = R.fz d := fun f2 i r' h1 h2 => by
            cases i with
            | zero => simp at h1; exact absurd h1 hc.1
            | succ i => exact f2 i r' (by simpa using h1) (by simpa using h2)
          cases k with
          | fz a k =>
            obtain ⟨G2, B2, g2, k2, n2, f2⟩ := passA_ok k (by rw [q])
            exact ⟨G2, B2, g2, .fz (a.mono (g2.gg k.base.1)) k2, nt (G2 := G2) (B2 := B2) n2, nf f2⟩
          | bor hv k =>
            obtain ⟨G2, B2, g2, k2, n2, f2⟩ := passA_ok k (by rw [q])
            exact ⟨G2, B2, g2, .bor hv k2, nt (G2 := G2) (B2 := B2) n2, nf f2⟩
          | @own _ l o d _ _ g0 l0 b0 a k =>
            obtain ⟨G2, B2, g2, k2, n2, f2⟩ := passA_ok k (by rw [q])
            have hl2 : B2 l = some o := g2.bb l o upd_same
            refine ⟨G2, del B2 l, ⟨ex_del g2.bb b0, fun p u hp => g2.fr p u (by rw [upd_ne (ne_of_none hp b0)]; exact hp)⟩, ?_, nt (G2 := G2) (B2 := B2) n2, nf f2⟩
            refine .own ((g2.fr l o upd_same).trans g0) l0 del_same (a.mono (g2.gg k.base.1)) ?_
            rw [upd_del hl2]
            exact k2
          | tp => simp [isTp] at hc
/-- with all that is pending -/
theorem OkVs.full (h : OkVs K L G H σ ρ B rs vs) (hn : ∀ r ∈ rs, isTp r = false) : ∃ Bf, Ex B Bf ∧ OkS K L G Bf H σ ρ ∧ (∀ (j : Nat) d, rs[j]? = some (.own d) → ∃ l o, vs[j]? = some (.ref l) ∧ Bf l = some o ∧ RepO K G d o ∧ G l = none ∧ B l = none) ∧
    (∀ (j : Nat) d, rs[j]? = some (.fz d) → ∃ v, vs[j]? = some v ∧ Rep K G d v) ∧ (∀ (j k : Nat), rs[j]? = some (.bor k) → vs[j]? = σ[k]?.join) ∧
    ∀ (j k : Nat) d d' l, rs[j]? = some (.own d) → rs[k]? = some (.own d') → vs[j]? = some (.ref l) → vs[k]? = some (.ref l) → j = k := by
  induction h with
  | nil s => exact ⟨_, Ex.refl _, s, by simp, by simp, by simp, by simp⟩
  | @fz B d v rs vs a _ ih =>
    obtain ⟨Bf, e, s, h1, h2, h3, h4⟩ := ih fun r hr => hn r (List.mem_cons_of_mem _ hr)
    refine ⟨Bf, e, s, fun j d hj => ?_, fun j d hj => ?_, fun j k hj => ?_, fun j k d1 d2 l a b c q => ?_⟩
    · cases j with
      | zero => simp at hj
      | succ j => simpa using h1 j d (by simpa using hj)
    · cases j with
      | zero => simp at hj; subst hj; exact ⟨v, by simp, a⟩
      | succ j => simpa using h2 j d (by simpa using hj)
    · cases j with
      | zero => simp at hj
      | succ j => simpa using h3 j k (by simpa using hj)
    · cases j with
      | zero => simp at a
      | succ j =>
        cases k with
        | zero => simp at b
        | succ k => exact congrArg (· + 1) (h4 j k d1 d2 l (by simpa using a) (by simpa using b) (by simpa using c) (by simpa using q))
  | @bor B i v rs vs a _ ih =>
    obtain ⟨Bf, e, s, h1, h2, h3, h4⟩ := ih fun r hr => hn r (List.mem_cons_of_mem _ hr)
    refine ⟨Bf, e, s, fun j d hj => ?_, fun j d hj => ?_, fun j k hj => ?_, fun j k d1 d2 l a b c q => ?_⟩
    · cases j with
      | zero => simp at hj
      | succ j => simpa using h1 j d (by simpa using hj)
    · cases j with
      | zero => simp at hj
      | succ j => simpa using h2 j d (by simpa using hj)
    · cases j with
      | zero => simp at hj; subst hj; rw [a]; simp
      | succ j => simpa using h3 j k (by simpa using hj)
    · cases j with
      | zero => simp at a
      | succ j =>
        cases k with
        | zero => simp at b
        | succ k => exact congrArg (· + 1) (h4 j k d1 d2 l (by simpa using a) (by simpa using b) (by simpa using c) (by simpa using q))
  | @own B l0 o0 d0 rs vs g0 n0 b0 a k ih =>
    obtain ⟨Bf, e, s, h1, h2, h3, h4⟩ := ih fun r hr => hn r (List.mem_cons_of_mem _ hr)
    have up : ∀ {l : Addr}, upd B l0 o0 l = none → l ≠ l0 ∧ B l = none := fun {l} h => by
      have hl : l ≠ l0 := fun z => by subst z; rw [upd_same] at h; cases h
      rw [upd_ne hl] at h
      exact ⟨hl, h⟩
    refine ⟨Bf, (Ex.new b0).trans e, s, fun j d hj => ?_, fun j d hj => ?_, fun j k hj => ?_, fun j k d1 d2 l a b c q => ?_⟩
    · cases j with
      | zero => simp at hj; subst hj; exact ⟨l0, o0, by simp, e _ _ upd_same, a, g0, b0⟩
      | succ j =>
        obtain ⟨l, o, a1, a2, a3, a4, a5⟩ := h1 j d (by simpa using hj)
        exact ⟨l, o, by simpa using a1, a2, a3, a4, (up a5).2⟩
    · cases j with
      | zero => simp at hj
      | succ j => simpa using h2 j d (by simpa using hj)
    · cases j with
      | zero => simp at hj
      | succ j => simpa using h3 j k (by simpa using hj)
    · cases j with
      | zero =>
        cases k with
        | zero => rfl
        | succ k =>
          simp at c
          obtain ⟨l', o', a1, a2, a3, a4, a5⟩ := h1 k d2 (by simpa using b)
          rw [show vs[k]? = some (V.ref l) by simpa using q] at a1
          cases a1
          exact absurd c.symm (up a5).1
      | succ j =>
        cases k with
        | zero =>
          simp at q
          obtain ⟨l', o', a1, a2, a3, a4, a5⟩ := h1 j d1 (by simpa using a)
          rw [show vs[j]? = some (V.ref l) by simpa using c] at a1
          cases a1
          exact absurd q.symm (up a5).1
        | succ k => exact congrArg (· + 1) (h4 j k d1 d2 l (by simpa using a) (by simpa using b) (by simpa using c) (by simpa using q))
  | tp => exact absurd (hn _ List.mem_cons_self) (by simp [isTp])
/-- the addresses that are changed -/
def ioA (ms : List Md) (vs : List V) (a : Addr) : Prop := ∃ i : Nat, ms[i]? = some .io ∧ vs[i]? = some (.ref a)
open Classical in
/-- all but these -/
noncomputable def butIO (H : Hp) (ms : List Md) (vs : List V) : Hp := fun a => if ioA ms vs a then none else H a
theorem butIO_in {ms : List Md} {a : Addr} (h : ioA ms vs a) : butIO H ms vs a = none := if_pos h
theorem butIO_out {ms : List Md} {a : Addr} (h : ¬ ioA ms vs a) : butIO H ms vs a = H a := if_neg h
theorem butIO_some {ms : List Md} {a : Addr} {o : HO} (h : butIO H ms vs a = some o) : ¬ ioA ms vs a ∧ H a = some o := by
  by_cases q : ioA ms vs a
  · rw [butIO_in q] at h; cases h
  · exact ⟨q, (butIO_out q).symm.trans h⟩
open Classical in
noncomputable def join (G B : Hp) : Hp := fun a => if G a = none then B a else G a
theorem join_l {G B : Hp} {a : Addr} {o : HO} (h : G a = some o) : join G B a = some o := by unfold join; rw [if_neg (by rw [h]; simp), h]
theorem join_r {G B : Hp} {a : Addr} (h : G a = none) : join G B a = B a := if_pos h
theorem passB_len : ∀ {ms : List Md} {rs : List R} {ds : List D}, passB ρ ms rs = some ds → ds.length = ms.length
  | [], [], _, e => by cases e; rfl
  | [], _ :: _, _, e => by simp [passB] at e
  | m :: _, [], _, e => by cases m <;> simp [passB] at e
  | m :: ms, r :: rs, ds, e => by
    have c : ∀ {d : D}, (passB ρ ms rs).map (d :: ·) = some ds → ds.length = (m :: ms).length := fun {d} e => by
      cases q : passB ρ ms rs with
      | none => rw [q] at e; cases e
      | some x => rw [q] at e; cases e; simp [passB_len q]
    cases m with
    | io =>
      cases r with
      | own d => exact c (by simpa only [passB] using e)
      | bor i =>
        simp only [passB] at e
        split at e
        · exact c e
        · cases e
      | fz d => simp [passB] at e
      | tp qs => simp [passB] at e
    | fz =>
      simp only [passB] at e
      split at e
      · exact c e
      · cases e
    | ln =>
      simp only [passB] at e
      split at e
      · exact c e
      · cases e
theorem passB_get : ∀ {ms : List Md} {rs : List R} {ds : List D} {i : Nat} {m : Md} {d : D}, passB ρ ms rs = some ds → ms[i]? = some m → ds[i]? = some d → ∃ r, rs[i]? = some r ∧
    ((m = .io ∧ (r = .own d ∨ ∃ j, r = .bor j ∧ ρ[j]? = some (.own d))) ∨ (m ≠ .io ∧ useR ρ r = some d))
  | [], _, _, _, _, _, _, h, _ => by simp at h
  | m0 :: _, [], _, _, _, _, e, _, _ => by cases m0 <;> simp [passB] at e
  | m0 :: ms, r :: rs, ds, i, m, d, e, h1, h2 => by
    have c : ∀ {d0 : D}, (passB ρ ms rs).map (d0 :: ·) = some ds → ((m0 = .io ∧ (r = .own d0 ∨ ∃ j, r = .bor j ∧ ρ[j]? = some (.own d0))) ∨ (m0 ≠ .io ∧ useR ρ r = some d0)) → ∃ r', (r :: rs)[i]? = some r' ∧
        ((m = .io ∧ (r' = .own d ∨ ∃ j, r' = .bor j ∧ ρ[j]? = some (.own d))) ∨ (m ≠ .io ∧ useR ρ r' = some d)) := fun {d0} e hd => by
      cases q : passB ρ ms rs with
      | none => rw [q] at e; cases e
      | some x =>
        rw [q] at e; cases e
        cases i with
        | zero => simp at h1 h2; subst h1; subst h2; exact ⟨r, by simp, hd⟩
        | succ i => simpa using passB_get (i := i) q (by simpa using h1) (by simpa using h2)
    cases m0 with
    | io =>
      cases r with
      | own d0 => exact c (by simpa only [passB] using e) (.inl ⟨rfl, .inl rfl⟩)
      | bor j =>
        simp only [passB] at e
        split at e
        · rename_i d0 hj
          exact c e (.inl ⟨rfl, .inr ⟨j, rfl, hj⟩⟩)
        · cases e
      | fz d => simp [passB] at e
      | tp qs => simp [passB] at e
    | fz =>
      simp only [passB] at e
      split at e
      · rename_i d0 hu
        exact c e (.inr ⟨by simp, hu⟩)
      · cases e
    | ln =>
      simp only [passB] at e
      split at e
      · rename_i d0 hu
        exact c e (.inr ⟨by simp, hu⟩)
      · cases e
theorem mem_ioSl : ∀ {ms : List Md} {rs : List R} {i j : Nat}, ms[i]? = some .io → rs[i]? = some (.bor j) → j ∈ ioSl ms rs
  | [], _, _, _, h, _ => by simp at h
  | _ :: _, [], _, _, _, h => by simp at h
  | m :: ms, r :: rs, 0, j, h1, h2 => by simp at h1 h2; subst h1; subst h2; exact List.mem_cons_self
  | m :: ms, r :: rs, i + 1, j, h1, h2 => by
    have ih : j ∈ ioSl ms rs := mem_ioSl (i := i) (by simpa using h1) (by simpa using h2)
    cases m <;> cases r <;> simp only [ioSl] <;> first | exact ih | exact List.mem_cons_of_mem _ ih
theorem mem_lnSl : ∀ {ms : List Md} {rs : List R} {i j : Nat}, ms[i]? = some .ln → rs[i]? = some (.bor j) → j ∈ lnSl ms rs
  | [], _, _, _, h, _ => by simp at h
  | _ :: _, [], _, _, _, h => by simp at h
  | m :: ms, r :: rs, 0, j, h1, h2 => by simp at h1 h2; subst h1; subst h2; exact List.mem_cons_self
  | m :: ms, r :: rs, i + 1, j, h1, h2 => by
    have ih : j ∈ lnSl ms rs := mem_lnSl (i := i) (by simpa using h1) (by simpa using h2)
    cases m <;> cases r <;> simp only [lnSl] <;> first | exact ih | exact List.mem_cons_of_mem _ ih
theorem nodup_ioSl : ∀ {ms : List Md} {rs : List R} {i i' j : Nat}, (ioSl ms rs).Nodup → ms[i]? = some .io → rs[i]? = some (.bor j) → ms[i']? = some .io → rs[i']? = some (.bor j) → i = i'
  | [], _, _, _, _, _, h, _, _, _ => by simp at h
  | _ :: _, [], _, _, _, _, _, h, _, _ => by simp at h
  | m :: ms, r :: rs, i, i', j, n, h1, h2, h3, h4 => by
    have tl : (ioSl ms rs).Nodup := by
      cases m <;> cases r <;> simp only [ioSl] at n <;> first | exact n | exact (List.nodup_cons.mp n).2
    cases i with
    | zero =>
      cases i' with
      | zero => rfl
      | succ i' =>
        simp at h1 h2; subst h1; subst h2
        simp only [ioSl] at n
        exact absurd (mem_ioSl (i := i') (by simpa using h3) (by simpa using h4)) (List.nodup_cons.mp n).1
    | succ i =>
      cases i' with
      | zero =>
        simp at h3 h4; subst h3; subst h4
        simp only [ioSl] at n
        exact absurd (mem_ioSl (i := i) (by simpa using h1) (by simpa using h2)) (List.nodup_cons.mp n).1
      | succ i' => exact congrArg (· + 1) (nodup_ioSl (i := i) (i' := i') tl (by simpa using h1) (by simpa using h2) (by simpa using h3) (by simpa using h4))
/-- what a callee is handed -/
theorem call_args {ms : List Md} {ds : List D} (k : OkVs K L G H σ ρ B rs vs) (hn : ∀ r ∈ rs, isTp r = false) (hfz : ∀ (i : Nat) r, ms[i]? = some .fz → rs[i]? = some r → ∃ d, r = .fz d) (hl : rs.length = ms.length) (hio : ioOk ms rs = true) (e : passB ρ ms rs = some ds) :
    ArgsOk K G (butIO H ms vs) H ms ds vs ∧ (∀ a, ioA ms vs a → B a = none) ∧ ∀ (i : Nat) d l, ρ[i]? = some (.own d) → i ∉ ioSl ms rs → σ[i]? = some (some (.ref l)) → ¬ ioA ms vs l := by
  obtain ⟨Bf, eB, s, hown, hf, hbor, hdis⟩ := k.full hn
  obtain ⟨nd, nl⟩ := Bool.and_eq_true_iff.mp hio
  have nd : (ioSl ms rs).Nodup := of_decide_eq_true nd
  have lv : vs.length = ms.length := by rw [← k.length]; exact hl
  -- an address that is changed: a temporary's or a slot's
  have io_of : ∀ {i : Nat} {a : Addr}, ms[i]? = some .io → vs[i]? = some (.ref a) → ∃ d o, ds[i]? = some d ∧ RepO K G d o ∧ H a = some o ∧ B a = none ∧ ((rs[i]? = some (.own d) ∧ Bf a = some o) ∨ ∃ j, rs[i]? = some (.bor j) ∧ ρ[j]? = some (.own d) ∧ σ[j]? = some (some (.ref a)) ∧ Bf a = none) := fun {i a} h1 h2 => by
    have hi : i < ds.length := by rw [passB_len e]; exact (List.getElem?_eq_some_iff.mp h1).1
    obtain ⟨r, hr, q⟩ := passB_get e h1 (List.getElem?_eq_getElem hi)
    rcases q with ⟨_, q⟩ | ⟨q, _⟩
    · rcases q with rfl | ⟨j, rfl, hj⟩
      · obtain ⟨l, o, w1, w2, w3, w4, w5⟩ := hown i _ hr
        rw [h2] at w1; cases w1
        exact ⟨_, o, List.getElem?_eq_getElem hi, w3, s.bh _ _ w2, w5, .inl ⟨hr, w2⟩⟩
      · obtain ⟨l, o, w1, w2, w3, w4⟩ := s.ow j _ hj
        have := hbor i j hr
        rw [h2, w1] at this
        cases this
        exact ⟨_, o, List.getElem?_eq_getElem hi, w4, w3, none_of_ex eB w2, .inr ⟨j, hr, hj, w1, w2⟩⟩
    · exact absurd rfl q
  have bNone : ∀ a, ioA ms vs a → B a = none := fun a ⟨i, h1, h2⟩ => by
    obtain ⟨_, _, _, _, _, h, _⟩ := io_of h1 h2
    exact h
  have gNone : ∀ a, ioA ms vs a → G a = none := fun a h => none_of_ex k.base.1 (bNone a h)
  -- a slot that is no changed one
  have slotNo : ∀ {i : Nat} {d : D} {l : Addr}, ρ[i]? = some (.own d) → i ∉ ioSl ms rs → σ[i]? = some (some (.ref l)) → ¬ ioA ms vs l := fun {i d l} hi hn hv ⟨j, h1, h2⟩ => by
    obtain ⟨l', o', w1, w2, _⟩ := s.ow i d hi
    rw [hv] at w1; cases w1
    obtain ⟨d', o, _, _, _, _, q⟩ := io_of h1 h2
    rcases q with ⟨_, q⟩ | ⟨j', q1, q2, q3, q4⟩
    · rw [w2] at q; cases q
    · have : i = j' := s.dis i j' d d' l hi q2 hv q3
      subst this
      exact hn (mem_ioSl h1 q1)
  refine ⟨⟨fun a u q => ?_, fun a u q => (butIO_some q).2, passB_len e, lv, fun i m d v h1 h2 h3 => ?_, fun i j l h1 h2 w1 w2 => ?_⟩, bNone, fun i d l => slotNo⟩
  · have na : ¬ ioA ms vs a := fun z => by rw [gNone a z] at q; cases q
    rw [butIO_out na]
    exact s.gh a u q
  · obtain ⟨r, hr, q⟩ := passB_get e h1 h2
    cases m with
    | fz =>
      obtain ⟨d', rfl⟩ := hfz i r h1 hr
      obtain ⟨w, a, b⟩ := hf i d' hr
      rcases q with ⟨q, _⟩ | ⟨_, q⟩
      · cases q
      · cases q
        rw [h3] at a; cases a
        exact b
    | io =>
      rcases q with ⟨_, q⟩ | ⟨q, _⟩
      · rcases q with rfl | ⟨j, rfl, hj⟩
        · obtain ⟨l, o, a, _⟩ := hown i d hr
          rw [h3] at a; cases a
          obtain ⟨d', o', a1, a2, a3, _⟩ := io_of h1 h3
          rw [h2] at a1; cases a1
          exact ⟨l, o', rfl, butIO_in ⟨i, h1, h3⟩, a3, a2⟩
        · obtain ⟨l, o, w1, _⟩ := s.ow j d hj
          have := hbor i j hr
          rw [h3, w1] at this
          cases this
          obtain ⟨d', o', a1, a2, a3, _⟩ := io_of h1 h3
          rw [h2] at a1; cases a1
          exact ⟨l, o', rfl, butIO_in ⟨i, h1, h3⟩, a3, a2⟩
      · exact absurd rfl q
    | ln =>
      rcases q with ⟨q, _⟩ | ⟨_, q⟩
      · cases q
      · cases r with
        | fz d' =>
          cases q
          obtain ⟨w, a, b⟩ := hf i d hr
          rw [h3] at a; cases a
          exact .inl b
        | own d' =>
          cases q
          obtain ⟨l, o, a, b, c, g, b0⟩ := hown i d hr
          rw [h3] at a; cases a
          refine .inr ⟨l, o, rfl, ?_, c⟩
          rw [butIO_out]
          · exact s.bh _ _ b
          · rintro ⟨j, y1, y2⟩
            obtain ⟨d', o', _, _, _, _, q⟩ := io_of y1 y2
            rcases q with ⟨q1, _⟩ | ⟨_, _, _, _, q⟩
            · have := hdis i j d d' l hr q1 h3 y2
              subst this
              rw [h1] at y1; cases y1
            · rw [b] at q; cases q
        | bor j =>
          have hv := hbor i j hr
          rw [h3] at hv
          have hs : σ[j]? = some (some v) := by
            cases x : σ[j]? with
            | none => rw [x] at hv; cases hv
            | some y => rw [x] at hv; cases y with
              | none => cases hv
              | some z => cases hv; rfl
          simp only [useR, getD] at q
          cases x : ρ[j]? with
          | none => rw [x] at q; cases q
          | some y =>
            rw [x] at q
            cases y with
            | un => cases q
            | fz d' =>
              cases q
              obtain ⟨w, a, b⟩ := s.fz j d x
              rw [hs] at a; cases a
              exact .inl b
            | own d' =>
              cases q
              obtain ⟨l, o, a, b, c, r⟩ := s.ow j d x
              rw [hs] at a; cases a
              refine .inr ⟨l, o, rfl, ?_, r⟩
              rw [butIO_out (slotNo x ?_ hs)]
              · exact c
              · intro z
                have := List.all_eq_true.mp nl j z
                exact of_decide_eq_true this (mem_lnSl h1 hr)
            | ln d' =>
              cases q
              obtain ⟨w, a, b⟩ := s.ln j d x
              rw [hs] at a; cases a
              refine b.imp id fun ⟨l, o, ev, hL, r⟩ => ⟨l, o, ev, ?_, r⟩
              have hB : Bf l = some o := s.lb j l o hL
              rw [butIO_out]
              · exact s.bh _ _ hB
              · rintro ⟨j', y1, y2⟩
                have hb := bNone l ⟨j', y1, y2⟩
                have := k.base.2.1 j l o hL
                rw [hb] at this; cases this
        | tp qs => cases q
  · obtain ⟨d1, o1, a1, _, _, _, q1⟩ := io_of h1 w1
    obtain ⟨d2, o2, a2, _, _, _, q2⟩ := io_of h2 w2
    rcases q1 with ⟨q1, b1⟩ | ⟨j1, q1, y1, z1, b1⟩
    · rcases q2 with ⟨q2, b2⟩ | ⟨j2, q2, y2, z2, b2⟩
      · exact hdis i j d1 d2 l q1 q2 w1 w2
      · rw [b1] at b2; cases b2
    · rcases q2 with ⟨q2, b2⟩ | ⟨j2, q2, y2, z2, b2⟩
      · rw [b2] at b1; cases b1
      · have := s.dis j1 j2 d1 d2 l y1 y2 z1 z2
        subst this
        exact nodup_ioSl nd h1 q1 h2 q2
end
end DN
set_option maxHeartbeats 2000000
namespace DN
open PySem PySem.Spec PyProof.Rows L2
open Evl (Ex)
section
variable {K : PySem.W.Frag} {L : Lent} {G G' B B' H H' : Hp} {σ : L2.St} {ρ ρ' : Env} {rs rs' : List R} {vs : List V} {d : D} {v : V} {r : R} {i : Nat} {l : Addr} {o : HO}
theorem unIO_get : ∀ {is : List Nat} {ρ : Env} {j : Nat} {x : Sl}, x ≠ .un → (unIO ρ is)[j]? = some x → j ∉ is ∧ ρ[j]? = some x
  | [], _, _, _, _, e => ⟨by simp, e⟩
  | i :: is, ρ, j, x, hx, e => by
    obtain ⟨h1, h2⟩ := unIO_get (is := is) (ρ := ρ.set i .un) hx e
    rw [List.getElem?_set] at h2
    by_cases h : i = j
    · rw [if_pos h] at h2
      split at h2
      · cases h2; exact absurd rfl hx
      · cases h2
    · rw [if_neg h] at h2
      exact ⟨fun z => (List.mem_cons.mp z).elim (fun z => h z.symm) h1, h2⟩
theorem unIO_length : ∀ {is : List Nat} {ρ : Env}, (unIO ρ is).length = ρ.length
  | [], _ => rfl
  | i :: is, ρ => by
    have := unIO_length (is := is) (ρ := ρ.set i .un)
    rw [List.length_set] at this
    exact this
theorem OkS.more (s : OkS K L G B H σ ρ) (hb : B l = none) (hh : H l = some o) (hn : ∀ (i : Nat) d, ρ[i]? = some (.own d) → σ[i]? ≠ some (some (.ref l))) : OkS K L G (upd B l o) H σ ρ := by
  refine ⟨s.gb.trans (Ex.new hb), s.lb.ex (Ex.new hb), fun a u q => ?_, s.len, s.fz, fun i d e => ?_, s.ln, s.dis⟩
  · by_cases ha : a = l
    · subst ha; rw [upd_same] at q; cases q; exact hh
    · rw [upd_ne ha] at q; exact s.bh a u q
  · obtain ⟨m, u, a, b, c, r⟩ := s.ow i d e
    have hm : m ≠ l := fun z => by subst z; exact hn i d e a
    exact ⟨m, u, a, by rw [upd_ne hm]; exact b, c, r⟩
theorem OkVs.rebase {Bx : Hp} (h : OkVs K noL G H [] [] Bx rs vs) : ∀ {Bn : Hp}, Ex Bn Bx → OkS K L G Bn H σ ρ → (∀ (i : Nat) d l, ρ[i]? = some (.own d) → σ[i]? = some (some (.ref l)) → Bx l ≠ none) → OkVs K L G H σ ρ Bn rs vs := by
  induction h with
  | nil _ => intro Bn e s _; exact .nil s
  | fz a _ ih => intro Bn e s q; exact .fz a (ih e s q)
  | bor a _ _ => intro Bn e s q; simp at a
  | @own Bx m u dd rs vs g n b a k ih =>
    intro Bn e s q
    have hb := none_of_ex e b
    refine .own g (s.lb.nl hb) hb a (ih (ex_upd e) (s.more hb (k.base.2.2 _ _ upd_same) fun i d h1 h2 => q i d m h1 h2 b) fun i d l h1 h2 h3 => ?_)
    by_cases hl : l = m
    · subst hl; exact q i d l h1 h2 b
    · rw [upd_ne hl] at h3; exact q i d l h1 h2 h3
  | @tp Bx m qs ws rs vs g n b hl k ih =>
    intro Bn e s q
    have hb := none_of_ex e b
    refine .tp g (s.lb.nl hb) hb hl (ih (ex_upd e) (s.more hb (k.base.2.2 _ _ upd_same) fun i d h1 h2 => q i d m h1 h2 b) fun i d l h1 h2 h3 => ?_)
    by_cases hl : l = m
    · subst hl; exact q i d l h1 h2 b
    · rw [upd_ne hl] at h3; exact q i d l h1 h2 h3
theorem OkS.putSlot (s : OkS K L G (upd B l o) H σ ρ) (hg : G l = none) (hl : NL L l) (hb : B l = none) (r : RepO K G d o) (hv : σ[i]? = some (some (.ref l))) : OkS K L G B H σ (ρ.set i (.own d)) := by
  have := s.setOwn (i := i) hg hl hb r
  have e : σ.set i (some (.ref l)) = σ := by
    refine List.ext_getElem? fun j => ?_
    rw [List.getElem?_set]
    by_cases h : i = j
    · subst h
      rw [if_pos rfl, hv, if_pos (List.getElem?_eq_some_iff.mp hv).1]
    · rw [if_neg h]
  rw [e] at this
  exact this
theorem OkVs.putSlot (h : OkVs K L G H σ ρ B (.own d :: rs) (v :: vs)) (hv : σ[i]? = some (some v)) : OkVs K L G H σ (ρ.set i (.own d)) B rs vs := by
  cases h with
  | @own _ l o _ _ _ g n b a k =>
    have key : ∀ {B2 : Hp} {rs : List R} {vs : List V}, OkVs K L G H σ ρ B2 rs vs → ∀ {B : Hp}, B2 = upd B l o → B l = none → OkVs K L G H σ (ρ.set i (.own d)) B rs vs := by
      intro B2 rs vs k
      induction k with
      | nil s => intro B e hb; subst e; exact .nil (s.putSlot g n hb a hv)
      | fz x _ ih => intro B e hb; exact .fz x (ih e hb)
      | bor x _ ih => intro B e hb; exact .bor x (ih e hb)
      | @own B2 m u e rs vs g0 n0 b0 x k ih =>
        intro B e hb
        subst e
        have hm : m ≠ l := fun z => by subst z; rw [upd_same] at b0; cases b0
        rw [upd_ne hm] at b0
        exact .own g0 n0 b0 x (ih (upd_comm (Ne.symm hm)) (by rw [upd_ne (Ne.symm hm)]; exact hb))
      | @tp B2 m qs ws rs vs g0 n0 b0 hl k ih =>
        intro B e hb
        subst e
        have hm : m ≠ l := fun z => by subst z; rw [upd_same] at b0; cases b0
        rw [upd_ne hm] at b0
        exact .tp g0 n0 b0 hl (ih (upd_comm (Ne.symm hm)) (by rw [upd_ne (Ne.symm hm)]; exact hb))
    exact key k rfl b
theorem put_outs {ss : List R} {us : List V} : ∀ {ms : List Md} {rs : List R} {vs : List V} {outs : List D} {ρ : Env}, OkVs K L G H σ ρ B (outs.map .own ++ ss) (iovs ms vs ++ us) → rs.length = ms.length → vs.length = ms.length → ss.length = us.length → (∀ (j k : Nat) v, rs[j]? = some (.bor k) → vs[j]? = some v → σ[k]? = some (some v)) →
    OkVs K L G H σ (putIO ρ ms rs outs) B ss us
  | [], rs, vs, outs, ρ, k, hl, lv, hs, hb => by
    cases rs with
    | cons => simp at hl
    | nil =>
      cases vs with
      | cons => simp at lv
      | nil =>
        have := k.length
        simp only [iovs, List.length_append, List.length_map, List.nil_append] at this
        have e : outs = [] := List.eq_nil_of_length_eq_zero (by omega)
        subst e
        exact k
  | m :: ms, [], vs, outs, ρ, k, hl, lv, hs, hb => by simp at hl
  | m :: ms, r :: rs, [], outs, ρ, k, hl, lv, hs, hb => by simp at lv
  | m :: ms, r :: rs, v :: vs, outs, ρ, k, hl, lv, hs, hb => by
    have hb' : ∀ (j k : Nat) v, rs[j]? = some (.bor k) → vs[j]? = some v → σ[k]? = some (some v) := fun j k v a b => hb (j + 1) k v (by simpa using a) (by simpa using b)
    have skip : m ≠ .io → OkVs K L G H σ (putIO ρ (m :: ms) (r :: rs) outs) B ss us := fun hm => by
      have k' : OkVs K L G H σ ρ B (outs.map .own ++ ss) (iovs ms vs ++ us) := by cases m <;> first | exact absurd rfl hm | exact k
      have := put_outs (ms := ms) (rs := rs) (vs := vs) k' (by simpa using hl) (by simpa using lv) hs hb'
      cases m <;> first | exact absurd rfl hm | exact this
    cases m with
    | fz => exact skip (by simp)
    | ln => exact skip (by simp)
    | io =>
      cases outs with
      | nil =>
        have := k.length
        simp only [iovs, List.length_append, List.map_nil, List.nil_append, List.length_cons] at this
        omega
      | cons d outs =>
        have k' : OkVs K L G H σ ρ B (.own d :: (outs.map .own ++ ss)) (v :: (iovs ms vs ++ us)) := k
        have rest := fun {ρ' : Env} (q : OkVs K L G H σ ρ' B (outs.map .own ++ ss) (iovs ms vs ++ us)) => put_outs (ms := ms) (rs := rs) (vs := vs) q (by simpa using hl) (by simpa using lv) hs hb'
        cases r with
        | bor i =>
          have hv := hb 0 i v (by simp) (by simp)
          exact rest (k'.putSlot hv)
        | fz d0 => exact rest k'.tail
        | own d0 => exact rest k'.tail
        | tp qs => exact rest k'.tail
/-- back from a call -/
theorem call_back {ms : List Md} {ds outs : List D} {ss : List R} {us : List V} {Bc : Hp} (k : OkVs K L G H σ ρ B rs vs) (hn : ∀ r ∈ rs, isTp r = false) (hfz : ∀ (i : Nat) r, ms[i]? = some .fz → rs[i]? = some r → ∃ d, r = .fz d) (hl : rs.length = ms.length) (hio : ioOk ms rs = true) (e : passB ρ ms rs = some ds)
    (g : Grow G (butIO H ms vs) G' Bc) (kk : OkVs K noL G' H' [] [] Bc (outs.map .own ++ ss) (iovs ms vs ++ us)) (hs : ss.length = us.length) :
    ∃ B', Grow G B G' B' ∧ OkVs K L G' H' σ (putIO (unIO ρ (ioSl ms rs)) ms rs outs) B' ss us := by
  obtain ⟨a, bNone, slotNo⟩ := call_args k hn hfz hl hio e
  have s := k.state k.length
  have eBc : Ex B (butIO H ms vs) := fun x u q => by
    have nx : ¬ ioA ms vs x := fun z => by rw [bNone x z] at q; cases q
    rw [butIO_out nx]
    exact s.bh x u q
  have eG : Ex G G' := g.gg a.gb
  have eJ : ∀ x u, B x = some u → join G' B x = some u := fun x u q => by
    by_cases hg : G' x = none
    · rw [join_r hg]; exact q
    · have hc := eBc x u q
      have hg2 := g.fr x u hc
      cases q2 : G' x with
      | none => exact absurd q2 hg
      | some w =>
        rw [hg2] at q2
        have := s.gb x w q2
        rw [q] at this; cases this
        exact join_l (by rw [hg2]; exact q2)
  have jB : Ex (join G' B) Bc := fun x u q => by
    cases q2 : G' x with
    | none =>
      rw [join_r q2] at q
      exact g.bb x u (eBc x u q)
    | some w =>
      rw [join_l q2] at q; cases q
      exact kk.base.1 x u q2
  have gJ : Ex G' (join G' B) := fun x u q => join_l q
  refine ⟨join G' B, ⟨eJ, fun x u q => g.fr x u (eBc x u q)⟩, ?_⟩
  have s1 : OkS K L G' (join G' B) H' σ (unIO ρ (ioSl ms rs)) := by
    refine ⟨gJ, s.lb.ex eJ, jB.trans kk.base.2.2, by rw [unIO_length]; exact s.len, fun i d q => ?_, fun i d q => ?_, fun i d q => ?_, fun i j d d' l q1 q2 => s.dis i j d d' l (unIO_get (by simp) q1).2 (unIO_get (by simp) q2).2⟩
    · obtain ⟨v, x, y⟩ := s.fz i d (unIO_get (by simp) q).2
      exact ⟨v, x, y.mono eG⟩
    · obtain ⟨hi, hq⟩ := unIO_get (by simp) q
      obtain ⟨l, o, w1, w2, w3, w4⟩ := s.ow i d hq
      have hc : butIO H ms vs l = some o := by rw [butIO_out (slotNo i d l hq hi w1)]; exact w3
      have hg : G' l = none := (g.fr l o hc).trans (none_of_ex s.gb w2)
      exact ⟨l, o, w1, by rw [join_r hg]; exact w2, kk.base.2.2 l o (g.bb l o hc), w4.mono eG⟩
    · obtain ⟨v, x, y⟩ := s.ln i d (unIO_get (by simp) q).2
      exact ⟨v, x, y.imp (fun z => z.mono eG) fun ⟨l, o, p, q, r⟩ => ⟨l, o, p, q, r.mono eG⟩⟩
  have k1 := kk.rebase jB s1 fun i d l q1 q2 => by
    obtain ⟨hi, hq⟩ := unIO_get (by simp) q1
    obtain ⟨l', o, w1, w2, w3, w4⟩ := s.ow i d hq
    rw [q2] at w1; cases w1
    have hc : butIO H ms vs l = some o := by rw [butIO_out (slotNo i d l hq hi q2)]; exact w3
    rw [g.bb l o hc]
    simp
  obtain ⟨Bf, _, _, _, _, hbor, _⟩ := k.full hn
  refine put_outs k1 hl (by rw [← k.length]; exact hl) hs fun j i v h1 h2 => ?_
  have := hbor j i h1
  rw [h2] at this
  cases x : σ[i]? with
  | none => rw [x] at this; cases this
  | some y => rw [x] at this; cases y with
    | none => cases this
    | some z => cases this; rfl
end
section
variable {K : PySem.W.Frag} {Wx : WX} {L : Lent} {G B H : Hp} {σ : L2.St} {ρ : Env} {rs : List R} {vs : List V}
/-- a call by a promise -/
theorem callM_ok {ms : List Md} {m : List D → FO} {Q : VK} (k : OkVs K L G H σ ρ B rs vs) (p : Post K Wx L G B σ (callM ms m ρ rs) fun ρ' r G' B' H' => ∀ v, OkVs K L G' H' σ ρ' B' [r] [v] → Q v H') :
    spM K ms m vs H Q fun c d H' => Wx c d σ H' := by
  unfold callM at p
  cases e1 : passA ρ ms rs with
  | none => simp only [e1] at p; exact p.elim
  | some x =>
    obtain ⟨ρ1, rs1⟩ := x
    simp only [e1] at p
    obtain ⟨G1, B1, g1, k1, hn, hfz⟩ := passA_ok k e1
    have hl := (passA_len e1).1
    by_cases hio : ioOk ms rs1 = true
    · rw [if_pos hio] at p
      cases e2 : passB ρ1 ms rs1 with
      | none => simp only [e2] at p; exact p.elim
      | some ds =>
        simp only [e2] at p
        obtain ⟨a, _, _⟩ := call_args k1 hn hfz hl hio e2
        refine ⟨G1, butIO H ms vs, ds, a, ?_⟩
        cases em : m ds with
        | un => simp only [em] at p; exact p.elim
        | ok outs r =>
          simp only [em] at p
          intro G' B' H' v g kk
          obtain ⟨B2, g2, k2⟩ := call_back k1 hn hfz hl hio e2 g kk rfl
          exact p G' B2 H' (g1.trans g2) v k2
        | er outs e =>
          simp only [em] at p
          intro G' B' H' c d g kk oe
          obtain ⟨B2, g2, k2⟩ := call_back (ss := []) (us := []) k1 hn hfz hl hio e2 g (by simpa using kk) rfl
          exact p G' B2 H' c d (g1.trans g2) k2.state oe
    · rw [if_neg hio] at p; exact p.elim
theorem iovs_app : ∀ {ms : List Md} {vs : List V} {n : Nat} {dv : List V}, vs.length = ms.length → iovs (ms ++ List.replicate n .fz) (vs ++ dv) = iovs ms vs
  | [], [], n, dv, _ => by
    show iovs (List.replicate n .fz) dv = []
    revert dv
    induction n with
    | zero => intro dv; cases dv <;> rfl
    | succ n ih =>
      intro dv
      cases dv with
      | nil => rfl
      | cons v dv => exact ih dv
  | [], _ :: _, _, _, h => by simp at h
  | _ :: _, [], _, _, h => by simp at h
  | m :: ms, v :: vs, n, dv, h => by
    have ih := iovs_app (ms := ms) (vs := vs) (n := n) (dv := dv) (by simpa using h)
    cases m
    · exact ih
    · exact ih
    · exact congrArg (v :: ·) ih
/-- with defaults behind -/
theorem spM_dflt {ms : List Md} {m : List D → FO} {Q : VK} {E : XK} {dd : List D} {dv : List V} (hd : ∀ H, Reps K H dd dv) (h : spM K ms (fun ds => m (ds ++ dd)) vs H Q E) : spM K (ms ++ List.replicate dd.length .fz) m (vs ++ dv) H Q E := by
  obtain ⟨G, B, ds, a, p⟩ := h
  have hl : dv.length = dd.length := (hd G).length
  refine ⟨G, B, ds ++ dd, ⟨a.gb, a.bh, by simp [a.ld], by simp [a.lv, hl], fun i m d v h1 h2 h3 => ?_, fun i j l h1 h2 w1 w2 => ?_⟩, ?_⟩
  · by_cases hi : i < ms.length
    · rw [List.getElem?_append_left hi] at h1
      rw [List.getElem?_append_left (by rw [a.ld]; exact hi)] at h2
      rw [List.getElem?_append_left (by rw [a.lv]; exact hi)] at h3
      exact a.one i m d v h1 h2 h3
    · rw [List.getElem?_append_right (by omega), List.getElem?_replicate] at h1
      rw [List.getElem?_append_right (by rw [a.ld]; omega), a.ld] at h2
      rw [List.getElem?_append_right (by rw [a.lv]; omega), a.lv] at h3
      split at h1
      · cases h1
        obtain ⟨w, x, y⟩ := (hd G).get h2
        rw [h3] at x; cases x
        exact y
      · cases h1
  · have left : ∀ {i : Nat}, (ms ++ List.replicate dd.length Md.fz)[i]? = some Md.io → i < ms.length := fun {i} h => by
      by_cases hi : i < ms.length
      · exact hi
      · rw [List.getElem?_append_right (by omega), List.getElem?_replicate] at h
        split at h <;> cases h
    have li := left h1
    have lj := left h2
    rw [List.getElem?_append_left li] at h1
    rw [List.getElem?_append_left lj] at h2
    rw [List.getElem?_append_left (by rw [a.lv]; exact li)] at w1
    rw [List.getElem?_append_left (by rw [a.lv]; exact lj)] at w2
    exact a.dis i j l h1 h2 w1 w2
  · rw [iovs_app a.lv]
    exact p
def dCall (ms : List Md) (m : List D → FO) (dd : List D) (fs : Env → O (List R)) : Env → O R := fun ρ => (fs ρ).bind fun ρ rs => callM ms (fun ds => m (ds ++ dd)) ρ rs
variable {X : Cx} {k : Nat} {f : Addr} {fd : FuncData} {ps : List Str} {E : L2.St → XK} {x : Str} {p pos : Pos} {e : Expr} {es : List Expr} {t : TA} {fs : Env → O (List R)} {ms : List Md} {m : List D → FO} {ds : List Value} {dv : List V} {dd : List D}
theorem sem_call (hd : ∀ H, Reps X.K H dd dv) (ha : SemA X Wx t fs) : SemE X Wx (tCallG (spM X.K (ms ++ List.replicate dd.length .fz) m) dv (WE Wx) t) (dCall ms m dd fs) := fun L G B H σ ρ Q s p =>
  ha L G B H σ ρ _ s ((Post.bind p).imp fun ρ1 rs G1 B1 H1 _ q vs k => spM_dflt hd (callM_ok k q))
theorem de_call (F : FnG X.prog X.w X.K X.mg X.base k f fd ps (spM X.K (ms ++ List.replicate dd.length .fz) m)) (hr : Room k X.A) (hG : X.A.guards = some []) (tk : Takes X Wx) (hg : Gl X x) (hm : X.mg x = some (.ref f)) (hk : PySem.W.keepIn X.K (.ref f) = true) (hb : Binds X.K fd ps ds) (hd : Vals dv ds) (hdd : ∀ H, Reps X.K H dd dv)
    (ha : DA X Wx (e :: es) t fs) (hdb : (x == ("__debug__" : Str)) = false := by decide) (he : starEach (e :: es) X.env = (false, eval e X.env) :: starEach es X.env := by rfl) (hpl : (backTo pos (starEach es X.env)).any (·.1) = false := by rfl) :
    DE X Wx (.Call (.Name x p) (e :: es) [] pos) (tCallG (spM X.K (ms ++ List.replicate dd.length .fz) m) dv (WE Wx) t) (dCall ms m dd fs) :=
  ⟨pe_callG F hr hG hg hm hk hb hd (fun σ => passAt tk σ) ha.1 hdb he hpl, sem_call hdd ha.2⟩
end
end DN
set_option maxHeartbeats 2000000
namespace HT
open PySem PySem.Spec PyProof.Rows L2
section
variable {prog : Program} {w : World} {A : Around} {E : Value → Shared → Prop} {s : Shared}
theorem adjust_rev (n : Nat) : Builtin.Slice.sliceAdjust none none (-1) (n : Int) = ((n : Int) - 1, -1) := rfl
theorem places_rev (n : Nat) : Builtin.Slice.slicePlaces ((n : Int) - 1) (-1) (-1) = n := by
  unfold Builtin.Slice.slicePlaces
  have h1 : ¬ ((-1 : Int) > 0) := by decide
  rw [if_neg h1]
  by_cases h : (n : Int) - 1 > -1
  · rw [if_pos h, show (- -1 : Int) = 1 by decide, Int.ediv_one]
    omega
  · rw [if_neg h]
    omega
theorem sliceApplied_rev {sl : Addr} {vl vu vs : Value} {n : Nat} {Q : Int × Int × Nat → Shared → Prop} (hs : s.heap.IsSliceOf sl vl vu vs) (pl : IsPart vl none) (pu : IsPart vu none) (ps : IsPart vs (some (-1)))
    (h : Q ((n : Int) - 1, -1, n) s) : wpAny (model prog w) A (Builtin.Slice.sliceApplied (.ref sl) (pure (n : Int))) Q E s := by
  obtain ⟨os, hos, hcs, hds⟩ := id hs
  unfold Builtin.Slice.sliceApplied Builtin.Slice.sliceFields
  refine wpAny_bind (wpAny_bind (wpAny_field hos hds (x := vl) rfl (wpAny_bind (wpAny_field hos hds (x := vu) rfl (wpAny_bind (wpAny_field hos hds (x := vs) rfl (wpAny_pure ?_)))))))
  refine wpAny_bind (slicePart_ ps ?_)
  show wpAny _ _ (if ((-1 : Int) == 0) = true then _ else _) _ _ s
  rw [if_neg (by decide)]
  refine wpAny_bind (slicePart_ pl (wpAny_bind (slicePart_ pu (wpAny_bind (wpAny_pure ?_)))))
  show wpAny _ _ (match Builtin.Slice.sliceAdjust none none (-1) (n : Int) with | (lo, hi) => pure (lo, (-1 : Int), Builtin.Slice.slicePlaces lo hi (-1))) _ _ s
  rw [adjust_rev n]
  show wpAny _ _ (pure ((n : Int) - 1, (-1 : Int), Builtin.Slice.slicePlaces ((n : Int) - 1) (-1) (-1))) _ _ s
  rw [places_rev]
  exact wpAny_pure h
theorem pick_rev (xs : Array Value) : ((List.range xs.size).filterMap fun (m : Nat) => xs[(((xs.size : Int) - 1) + (m : Int) * (-1)).toNat]?).toArray = xs.toList.reverse.toArray := by
  have e : (fun (m : Nat) => xs[(((xs.size : Int) - 1) + (m : Int) * (-1)).toNat]?) = (fun k => xs[k]?) ∘ fun m => xs.size - 1 - m := by
    funext m
    have : (((xs.size : Int) - 1) + (m : Int) * (-1)).toNat = xs.size - 1 - m := by omega
    rw [this]
    rfl
  rw [e, ← List.filterMap_map, PySem.W.krv_range, List.filterMap_reverse, PySem.W.krv_all]
theorem getItem_tuple_rev {t sl : Addr} {items : Array Value} {vl vu vs : Value} {Q : Value → Shared → Prop} (ht : IsTup s.heap t items) (hs : s.heap.IsSliceOf sl vl vu vs) (pl : IsPart vl none) (pu : IsPart vu none) (ps : IsPart vs (some (-1)))
    (h : Q (.ref s.heap.objs.size) { s with heap := s.heap.push { cls := .type "tuple", data := .seq items.toList.reverse.toArray } })
    (hsz : items.size ≤ sizeLine) : wpAny (model prog w) A (getItem (.ref t) (.ref sl)) Q E s := by
  have htake : sizeOk (.seq items.toList.reverse.toArray) := by
    show items.toList.reverse.toArray.size ≤ sizeLine
    rw [List.size_toArray, List.length_reverse, Array.length_toList]
    exact hsz
  obtain ⟨os, hos, hcs, hds⟩ := id hs
  have hTs : s.TypeIs (.ref sl) "slice" := ⟨os, hos, hcs⟩
  unfold getItem
  try with_reducible refine wpAny_holding ?_
  first | refine wpAny_bind (wpAny_pure ?_) | skip
  refine wpAny_bind (wpAny_sequenceKey ht.typeIs (by decide) ?_)
  refine wpAny_bind (wpAny_callSpecial?_slot (name := Str.ofString "__getitem__") ht.typeIs PyProof.Rows.slot_tuple_getitem
    (wpAny_call_entry PyProof.Rows.slot_tuple_getitem ht.typeIs entry_tuple_getitem ?_ (args_tuple_getitem _ _)))
  show wpAny _ _ (Builtin.Tuple.tupleItemsOf (.ref t) >>= _) _ _ s
  refine wpAny_bind (tupleItemsOf_ ht ?_)
  refine wpAny_bind (wpAny_typeOf hTs ?_)
  rw [if_pos (by decide)]
  refine wpAny_bind (sliceApplied_rev hs pl pu ps ?_)
  have hno : ¬ ((((items.size : Int) - 1) == 0 && (-1 : Int) == 1 && items.size == items.size) = true) := by
    rw [show ((-1 : Int) == 1) = false by decide, Bool.and_false, Bool.false_and]
    exact Bool.false_ne_true
  show wpAny _ _ (if (((items.size : Int) - 1) == 0 && (-1 : Int) == 1 && items.size == items.size) = true then _ else _) _ _ s
  rw [if_neg hno, pick_rev]
  first
    | exact wpAny_bind (m := Builtin.Tuple.tupleExact _) (wpAny_newObj_type (wpAny_pure ⟨_, rfl, wpAny_pure h⟩) htake)
    | exact wpAny_bind (m := Builtin.Tuple.tupleExact _) (wpAny_newObj_type (wpAny_bind (wpAny_pure (wpAny_pure ⟨_, rfl, wpAny_pure h⟩))) htake)
    | exact wpAny_bind (wpAny_bind (m := Builtin.Tuple.tupleExact _) (wpAny_newObj_type (wpAny_pure (wpAny_pure ⟨_, rfl, wpAny_pure h⟩)) htake))
    | exact wpAny_bind (wpAny_bind (m := Builtin.Tuple.tupleExact _) (wpAny_newObj_type (wpAny_pure ⟨_, rfl, wpAny_pure h⟩) htake))
end
end HT
namespace DN
open PySem PySem.Spec PyProof.Rows L2
open Evl (Ex)
section
variable {K : PySem.W.Frag} {X : Cx} {Wx : WX} {e a b : Expr} {f h : Env → O R} {pos p : Pos} {ta tb : TE} {tr : TA} {es : List Expr} {fs : Env → O (List R)}
theorem Reps.atI {H : Hp} {ds : List D} {vs : List V} {i : Int} {d : D} (r : Reps K H ds vs) (h : L2.atI ds i = some d) : ∃ v, L2.atI vs i = some v ∧ Rep K H d v := by
  unfold L2.atI at h ⊢
  rw [← r.length] at h
  cases q : ixN vs.length i with
  | none => rw [q] at h; cases h
  | some j => rw [q] at h; exact r.get h
def keyD : D → Option Key
  | .int i => some (.inl i)
  | .str x => some (.inr x)
  | _ => none
theorem keyD_top {G H : Hp} {d : D} {v : V} {k : Key} (t : Top K G H d v) (e : keyD d = some k) : v = kV k := by
  unfold keyD at e
  split at e
  · cases e; exact t.int_inv
  · cases e; exact t.str_inv
  · cases e
def valD (kvs : List (Key × D)) (k : Key) : Option D := (kvs.find? fun kv => decide (kv.1 = k)).map (·.2)
def putD (kvs : List (Key × D)) (k : Key) (d : D) : List (Key × D) := if (kvs.any fun kv => decide (kv.1 = k)) = true then kvs.map (fun kv => if kv.1 = k then (kv.1, d) else kv) else kvs ++ [(k, d)]
theorem RepK.val {H : Hp} {k : Key} : ∀ {kvs : List (Key × D)} {kws : List (Key × V)}, RepK K H kvs kws → (∀ d, valD kvs k = some d → ∃ v, valV kws k = some v ∧ Rep K H d v) ∧ (valD kvs k = none → valV kws k = none)
  | _, _, .nil => ⟨by simp [valD], fun _ => rfl⟩
  | _, _, .cons (k := k0) (d := d0) (v := v0) r t => by
    by_cases h : k0 = k
    · refine ⟨fun d e => ?_, fun e => ?_⟩
      · simp only [valD, List.find?_cons, h, decide_true, Option.map_some, Option.some.injEq] at e
        subst e
        exact ⟨_, valV_pos h, r⟩
      · simp [valD, List.find?_cons, h] at e
    · have ih := RepK.val (k := k) t
      refine ⟨fun d e => ?_, fun e => ?_⟩
      · rw [valV_neg h]
        refine ih.1 d ?_
        simpa [valD, List.find?_cons, h] using e
      · rw [valV_neg h]
        refine ih.2 ?_
        simpa [valD, List.find?_cons, h] using e
theorem RepK.length {H : Hp} : ∀ {kvs : List (Key × D)} {kws : List (Key × V)}, RepK K H kvs kws → kws.length = kvs.length
  | _, _, .nil => rfl
  | _, _, .cons _ t => congrArg (· + 1) (RepK.length t)
theorem RepK.any {H : Hp} {k : Key} : ∀ {kvs : List (Key × D)} {kws : List (Key × V)}, RepK K H kvs kws → (kws.any fun kv => decide (kv.1 = k)) = kvs.any fun kv => decide (kv.1 = k)
  | _, _, .nil => rfl
  | _, _, .cons _ t => by rw [List.any_cons, List.any_cons, RepK.any t]
theorem RepK.app {H : Hp} : ∀ {kvs lvs : List (Key × D)} {kws lws : List (Key × V)}, RepK K H kvs kws → RepK K H lvs lws → RepK K H (kvs ++ lvs) (kws ++ lws)
  | _, _, _, _, .nil, h => h
  | _, _, _, _, .cons r t, h => .cons r (RepK.app t h)
theorem RepK.put {H : Hp} {k : Key} {d : D} {v : V} {kvs : List (Key × D)} {kws : List (Key × V)} (h : RepK K H kvs kws) (r : Rep K H d v) : RepK K H (putD kvs k d) (putK kws k v) := by
  unfold putD putK
  rw [h.any (k := k)]
  split
  · have key : ∀ {kvs : List (Key × D)} {kws : List (Key × V)}, RepK K H kvs kws → RepK K H (kvs.map fun kv => if kv.1 = k then (kv.1, d) else kv) (kws.map fun kv => if kv.1 = k then (kv.1, v) else kv) := by
      intro kvs kws h
      induction kvs generalizing kws with
      | nil => cases h; exact .nil
      | cons p q ih =>
        cases h with
        | @cons k0 d0 v0 _ _ r0 t =>
          rw [List.map_cons, List.map_cons]
          by_cases hk : k0 = k
          · rw [if_pos hk, if_pos hk]; exact .cons r (ih t)
          · rw [if_neg hk, if_neg hk]; exact .cons r0 (ih t)
    exact key h
  · exact h.app (.cons r .nil)
theorem RepK.keys {H : Hp} : ∀ {kvs : List (Key × D)} {kws : List (Key × V)}, RepK K H kvs kws → kws.map (·.1) = kvs.map (·.1)
  | _, _, .nil => rfl
  | _, _, .cons _ t => by rw [List.map_cons, List.map_cons, RepK.keys t]
theorem RepK.isSome {H : Hp} {k : Key} {kvs : List (Key × D)} {kws : List (Key × V)} (r : RepK K H kvs kws) : (valV kws k).isSome = (valD kvs k).isSome := by
  have h := r.val (k := k)
  cases ev : valD kvs k with
  | none => rw [h.2 ev] <;> rfl
  | some d => obtain ⟨w, hw, _⟩ := h.1 d ev; rw [hw] <;> rfl
def rIxD : R2 := fun x y H Q => ∃ a v, x = .ref a ∧ DGet H a y (some v) ∧ Q v H
theorem ix_dict (hu : X.A.units + 1 < cLine) : IxR X rIxD := by
  intro value slice pins s σ H x y v u Q I rx ry ⟨a, z, ex, g, q⟩ hs
  subst ex
  cases rx
  refine tail_any (dict_typeIs I g) PySem.F.slot_dict_getitem.lookup (d_getItem hu I g ry fun w' s3 I3 rw' => ⟨z, H, I3, rw', q⟩) hs
def gIx (x y : D) : Option R := match x, y with
  | .lst ds, .int i => (atI ds i).map .fz
  | .tup ds, .int i => (atI ds i).map .fz
  | .str z, .int i => if z.length ≤ 1000000 then (atI z.cps.toList i).map fun c => .fz (.str ⟨#[c]⟩) else none
  | .dct kvs, k => match keyD k with
    | some k => (valD kvs k).map .fz
    | none => none
  | _, _ => none
def rIxX (K : PySem.W.Frag) : R2 := fun x y H Q => rIx K x y H Q ∨ rIxD x y H Q
theorem ix_any (hu : X.A.units + 1 < cLine) : IxR X (rIxX X.K) := ix_seq.or (ix_dict hu)
theorem s_ix : OpSound K gIx (rIxX K) := by
  intro G H x y v u z Q hG hx hy e q
  unfold gIx at e
  split at e
  · cases hx with
    | lst a r =>
    cases hy
    obtain ⟨d, e1, rfl⟩ := Option.map_eq_some_iff.mp e
    obtain ⟨v, e2, rv⟩ := r.atI e1
    exact .inl (.inl ⟨_, _, _, _, rfl, rfl, a.sql, e2, q v rv⟩)
  · cases hx with
    | tup a r =>
    cases hy
    obtain ⟨d, e1, rfl⟩ := Option.map_eq_some_iff.mp e
    obtain ⟨v, e2, rv⟩ := r.atI e1
    exact .inl (.inr (.inl ⟨_, _, _, _, rfl, rfl, a, e2, q v rv⟩))
  · cases hx
    cases hy
    split at e
    · rename_i hz
      obtain ⟨c, e1, rfl⟩ := Option.map_eq_some_iff.mp e
      exact .inl (.inr (.inr ⟨_, _, c, rfl, rfl, Nat.le_trans hz (by rw [sizeLine_eq]; decide), e1, q _ .str⟩))
    · cases e
  · cases hx with
    | dct a r =>
    split at e
    · rename_i k ek
      obtain ⟨d, e1, rfl⟩ := Option.map_eq_some_iff.mp e
      obtain ⟨v, e2, rv⟩ := (r.val (k := k)).1 d e1
      exact .inr ⟨_, v, rfl, .inl ⟨_, k, a, keyD_top hy ek, e2.symm⟩, q v rv⟩
    · cases e
  · cases e
theorem de_ix (hu : X.A.units + 1 < cLine) (ha : DE X Wx a ta f) (hb : DE X Wx b tb h) (hs : PlainIx b := by first | exact fun _ _ => rfl | (with_unfolding_all exact fun _ _ => rfl)) : DE X Wx (.Subscript a b pos) (tOp (rIxX X.K) ta tb) (dOp gIx f h) :=
  ⟨pe_ix (ix_any hu) ha.1 hb.1 hs, two s_ix ha.2 hb.2⟩
def SemP (X : Cx) (Wx : WX) (t : TO) (fo : Env → O (Option Int)) : Prop := ∀ L G B H σ ρ Q, OkS X.K L G B H σ ρ →
  Post X.K Wx L G B σ (fo ρ) (fun ρ' o G' B' H' => OkS X.K L G' B' H' σ ρ' → Q o H') → t σ H Q
def DP (X : Cx) (Wx : WX) (e : Option Expr) (t : TO) (fo : Env → O (Option Int)) : Prop := PO X e t ∧ SemP X Wx t fo
def dNoPart : Env → O (Option Int) := fun ρ => .ok ρ none
def dPart (f : Env → O R) : Env → O (Option Int) := fun ρ => (dN f ρ).bind fun ρ r => match useR ρ r with
  | some (.int i) => .ok ρ (some i)
  | _ => .un
theorem dp_none : DP X Wx none tNoPart dNoPart := ⟨po_none, fun L G B H σ ρ Q s p => Post.okD p H s⟩
theorem dp_some (ha : DE X Wx a ta f) : DP X Wx (some a) (tPart ta) (dPart f) :=
  ⟨po_some ha.1, fun L G B H σ ρ Q s p => ha.2.n L G B H σ ρ _ s ((Post.bind p).imp fun ρ2 r2 G2 B2 H1 _ q2 v k2 => by
    have s2 := k2.state
    cases u : useR ρ2 r2 with
    | none => simp only [u] at q2; exact q2.elim
    | some d =>
      simp only [u] at q2
      cases d <;> try exact q2.elim
      have t := k2.use u
      cases t
      exact ⟨_, rfl, Post.okD q2 H1 s2⟩)⟩
theorem OkVs.thenP {t : TO} {L : Lent} {G B H : Hp} {σ : L2.St} {ρ : Env} {Q : Option Int → Hp → Prop} {rs : List R} {vs : List V} {fo : Env → O (Option Int)} (k : OkVs X.K L G H σ ρ B rs vs) (hb : SemP X Wx t fo)
    (p : Post X.K Wx L G B σ (fo ρ) (fun ρ' o G' B' H' => OkVs X.K L G' H' σ ρ' B' rs vs → Q o H')) : t σ H Q := by
  obtain ⟨B3, e3, s3, hold⟩ := k.hold
  refine hb L G B3 H σ ρ _ s3 ?_
  cases eh : fo ρ with
  | un => rw [eh] at p; exact p
  | er ρ4 e4 =>
    rw [eh] at p
    intro G' B' H' c d gr s4 oe
    obtain ⟨B5, g5, k5⟩ := hold gr (.nil s4)
    exact p G' B5 H' c d g5 (k5.state k5.length) oe
  | ok ρ4 r4 =>
    rw [eh] at p
    intro G' B' H' gr s4
    obtain ⟨B5, g5, k5⟩ := hold gr (.nil s4)
    rw [List.append_nil, List.append_nil] at k5
    exact p G' B5 H' g5 k5
def cutL {α : Type} (xs : List α) (lo hi : Option Int) : List α := (xs.drop (HT.sIx xs.length 0 lo)).take (HT.sIx xs.length xs.length hi - HT.sIx xs.length 0 lo)
def wholeL (n : Nat) (lo hi : Option Int) : Bool := decide (HT.sIx n 0 lo = 0 ∧ HT.sIx n n hi = n)
def gSl (x : D) (lo hi : Option Int) : Option R := match x with
  | .lst ds => some (.own (.lst (cutL ds lo hi)))
  | .tup ds => if wholeL ds.length lo hi = true then none else some (.own (.tup (cutL ds lo hi)))
  | .str z => if z.length ≤ 1000000 then some (.fz (.str (cutS z lo hi))) else none
  | _ => none
theorem Reps.cut {H : Hp} {ds : List D} {vs : List V} (r : Reps K H ds vs) (lo hi : Option Int) : Reps K H (cutL ds lo hi) (cutV vs lo hi) := by
  unfold cutL cutV
  rw [r.length]
  exact (r.drop _).take _
def rSlA (K : PySem.W.Frag) : V → Option Int → Option Int → Hp → VK → Prop := fun x lo hi H Q => rSlL K x lo hi H Q ∨ rSlT K x lo hi H Q ∨ rSlS x lo hi H Q
theorem sl_any : SlR X (rSlA X.K) := SlR.or sl_list (SlR.or sl_tup sl_str)
theorem s_sl {G H : Hp} {x : D} {v : V} {lo hi : Option Int} {z : R} {Q : VK} (t : Top K G H x v) (e : gSl x lo hi = some z) (q : Res K G H Q z) : rSlA K v lo hi H Q := by
  unfold gSl at e
  split at e
  · cases e
    cases t with
    | lst a r => exact .inl ⟨_, _, rfl, a.sql, fun p hp => q p _ hp (.lst (r.cut lo hi))⟩
  · cases t with
    | tup a r =>
    split at e
    · cases e
    · rename_i hw
      cases e
      refine .inr (.inl ⟨_, _, rfl, a, fun w => hw ?_, fun p hp => q p _ hp (.tup (r.cut lo hi))⟩)
      rw [r.length] at w
      exact decide_eq_true w
  · cases t
    split at e
    · rename_i hz
      cases e
      exact .inr (.inr ⟨_, rfl, million hz, q _ .str⟩)
    · cases e
  · cases e
def dSl (f : Env → O R) (lo hi : Env → O (Option Int)) : Env → O R := fun ρ => (dN f ρ).bind fun ρ r => (lo ρ).bind fun ρ l => (hi ρ).bind fun ρ u => (use1 ρ r).bind fun ρ d => ret ρ (gSl d l u)
theorem de_sl {lo hi : Option Expr} {tl th : TO} {fl fh : Env → O (Option Int)} {p2 : Pos} (ha : DE X Wx a ta f) (hl : DP X Wx lo tl fl) (hh : DP X Wx hi th fh) : DE X Wx (.Subscript a (.Slice lo hi none p2) pos) (tSl (rSlA X.K) ta tl th) (dSl f fl fh) :=
  ⟨pe_slice sl_any ha.1 hl.1 hh.1, fun L G B H σ ρ Q s p => ha.2.n L G B H σ ρ _ s ((Post.bind p).imp fun ρ1 r1 G1 B1 H1 _ q1 v k1 => k1.thenP hl.2 ((Post.bind q1).imp fun ρ2 l G2 B2 H2 _ q2 k2 => k2.thenP hh.2 ((Post.bind q2).imp fun ρ3 u G3 B3 H3 _ q3 k3 => by
    unfold use1 at q3
    cases eu : useR ρ3 r1 with
    | none => simp only [eu] at q3; exact q3.elim
    | some d =>
      simp only [eu] at q3
      obtain ⟨z, ez, rz⟩ := ret_ok k3.state q3
      exact s_sl (k3.use eu) ez rz)))⟩
def gRev : D → Option R
  | .lst ds => some (.own (.lst ds.reverse))
  | .tup ds => some (.own (.tup ds.reverse))
  | _ => none
/-- a list or a tuple, turned round -/
def rRev (K : PySem.W.Frag) : V → Hp → VK → Prop := fun x H Q => ∃ a xs, x = .ref a ∧ ((SqL K H a xs ∧ ∀ p, H p = none → Q (.ref p) (upd H p (.lst xs.reverse))) ∨ (SqT K H a xs ∧ ∀ p, H p = none → Q (.ref p) (upd H p (.tup xs.reverse))))
theorem pe_revA {e : Expr} {te : TE} {k : Nat} {p1 p2 p3 pos : Pos} (he : PE X e te) : PE X (.Subscript e (.Slice none none (some (.UnaryOp .USub (.Constant (.int 1) k p1) p2)) p3) pos) (tUn (rRev X.K) te) := by
  refine ⟨fun pins s σ H Q I h => ?_⟩
  refine Subscript_ (thn (he.run pins s σ H _ I h) fun v s1 ⟨x, H1, I1, r1, q1⟩ => ?_)
  obtain ⟨a, xs, ex, q⟩ := q1
  subst ex
  cases r1
  have hst : PO X (some (.UnaryOp .USub (.Constant (.int 1) k p1) p2)) (tPart (tUn (rU fun i => .int (-i)) (tC (.int 1)))) := po_some (pe_un un_neg pe_int)
  refine wpAny_Slice (thn (po_none.run pins s1 σ H1 (fun o H2 => o = none ∧ H2 = H1) I1 ⟨rfl, rfl⟩) fun vl s2 ⟨l, H2, I2, pl, el, e2⟩ => ?_)
  subst el e2
  refine thn (po_none.run pins s2 σ H2 (fun o H3 => o = none ∧ H3 = H2) I2 ⟨rfl, rfl⟩) fun vu s3 ⟨u, H3, I3, pu, eu, e3⟩ => ?_
  subst eu e3
  refine thn (hst.run pins s3 σ H3 (fun o H4 => o = some (-1) ∧ H4 = H3) I3 ⟨1, rfl, -1, rfl, rfl, rfl⟩) fun vs s4 ⟨o, H4, I4, ps, eo, e4⟩ => ?_
  subst eo e4
  have I5 : L2.Inv X pins σ H4 { s4 with heap := s4.heap.push { cls := .type "slice", data := .fields #[vl, vu, vs] } } := I4.kept (t' := s4.toks) fun b ob q => Heap.get?_push_of_some _ q
  rcases q with ⟨hx, q⟩ | ⟨hx, q⟩
  · obtain ⟨its, r, ht, hz⟩ := I5.list hx
    have hlen := r.length
    show wpAny (model X.prog X.w) X.A (subscriptTail e (.Slice none none (some (.UnaryOp .USub (.Constant (.int 1) k p1) p2)) p3) (.ref a) (.ref s4.heap.objs.size)) (EP X pins σ Q) X.xe { s4 with heap := s4.heap.push { cls := .type "slice", data := .fields #[vl, vu, vs] } }
    refine tail_any (ops := [.ref a, .ref s4.heap.objs.size]) ht.isList.typeIs (PySem.slot_list_getitem.lookup) ?_ (by with_unfolding_all rfl)
    refine wpAny_getItem_list_slice ht.isList (Heap.IsSliceOf.new _ vl vu vs) pl pu ps (by decide) ?_ (by rw [List.size_toArray]; omega)
    rw [PySem.W.krv_pick]
    refine ⟨.ref _, _, I5.laid (t' := s4.toks) (o := .lst xs.reverse) (fun b ob q => Heap.get?_push_of_some _ q) (Nat.le_refl _) ?_, rfl, q _ (I5.hok.fresh (Nat.le_refl _))⟩
    exact ⟨by rw [List.length_reverse]; exact hz, _, 0, r.reverse, Heap.get?_push_size _ rfl⟩
  · obtain ⟨its, r, ht, hz⟩ := I5.tuple hx
    have hlen := r.length
    show wpAny (model X.prog X.w) X.A (subscriptTail e (.Slice none none (some (.UnaryOp .USub (.Constant (.int 1) k p1) p2)) p3) (.ref a) (.ref s4.heap.objs.size)) (EP X pins σ Q) X.xe { s4 with heap := s4.heap.push { cls := .type "slice", data := .fields #[vl, vu, vs] } }
    refine tail_any (ops := [.ref a, .ref s4.heap.objs.size]) ht.typeIs (PyProof.Rows.slot_tuple_getitem.lookup) ?_ (by with_unfolding_all rfl)
    refine HT.getItem_tuple_rev ht (Heap.IsSliceOf.new _ vl vu vs) pl pu ps ?_ (by rw [List.size_toArray]; omega)
    refine ⟨.ref _, _, I5.laid (t' := s4.toks) (o := .tup xs.reverse) (fun b ob q => Heap.get?_push_of_some _ q) (Nat.le_refl _) ?_, rfl, q _ (I5.hok.fresh (Nat.le_refl _))⟩
    exact ⟨by rw [List.length_reverse]; exact hz, _, r.reverse, IsTup.new _ _⟩
theorem s_rev : UnSound K gRev (rRev K) := by
  intro G H x v z Q _ t e q
  unfold gRev at e
  split at e
  · cases e
    cases t with
    | lst a r => exact ⟨_, _, rfl, .inl ⟨a.sql, fun p hp => q p _ hp (.lst r.reverse)⟩⟩
  · cases e
    cases t with
    | tup a r => exact ⟨_, _, rfl, .inr ⟨a, fun p hp => q p _ hp (.tup r.reverse)⟩⟩
  · cases e
theorem de_rev {k : Nat} {p1 p2 p3 : Pos} (ha : DE X Wx a ta f) : DE X Wx (.Subscript a (.Slice none none (some (.UnaryOp .USub (.Constant (.int 1) k p1) p2)) p3) pos) (tUn (rRev X.K) ta) (dUn gRev f) :=
  ⟨pe_revA ha.1, one s_rev ha.2⟩
def flatD : D → Bool
  | .non | .bl _ | .int _ | .str _ => true
  | _ => false
def toV : D → V
  | .bl b => .bl b
  | .int i => .int i
  | .str z => .str z
  | _ => .non
theorem flat_top {G H : Hp} {d : D} {v : V} (t : Top K G H d v) (e : flatD d = true) : v = toV d ∧ flatV v = true := by
  cases t <;> first | exact ⟨rfl, rfl⟩ | exact Bool.noConfusion e
theorem flat_reps {H : Hp} : ∀ {ds : List D} {vs : List V}, Reps K H ds vs → ds.all flatD = true → vs = ds.map toV ∧ vs.all flatV = true
  | _, _, .nil, _ => ⟨rfl, rfl⟩
  | _, _, .cons r t, e => by
    rw [List.all_cons, Bool.and_eq_true] at e
    obtain ⟨h1, h2⟩ := flat_top (r.top (Ex.refl _)) e.1
    obtain ⟨h3, h4⟩ := flat_reps t e.2
    exact ⟨by rw [List.map_cons, ← h1, ← h3], by rw [List.all_cons, h2, h4]; rfl⟩
def inFlat (x : D) (ds : List D) : Option Bool := if (flatD x && ds.all flatD) = true then some (inV (toV x) (ds.map toV)) else none
def inDeep (x : D) (ds : List D) : Option Bool := match py x, pys ds with
  | some p, some ps => if (SeqAt.shaped p && SeqAt.shaped (.list ps)) = true then some (ps.any fun z => PyData.eqv z p) else none
  | _, _ => none
def inD (x y : D) : Option Bool := match y with
  | .lst ds => inDeep x ds
  | .tup ds => inFlat x ds
  | .dct kvs => (keyD x).map fun k => (valD kvs k).isSome
  | .str z => match x with
    | .str c => match c.cps.toList with
      | [n] => some (decide (n ∈ z.cps.toList))
      | _ => none
    | _ => none
  | _ => none
def rInX (K : PySem.W.Frag) (neg : Bool) : R2 := fun x y H Q =>
  (∃ d ds, Dp K H x d ∧ Dp K H y (.list ds) ∧ SeqAt.shaped d = true ∧ SeqAt.shaped (.list ds) = true ∧ Q (.bl (if neg then !(ds.any fun z => PyData.eqv z d) else ds.any fun z => PyData.eqv z d)) H) ∨
  rIn K neg x y H Q ∨ (∃ a o, y = .ref a ∧ DGet H a x o ∧ Q (.bl (if neg then !o.isSome else o.isSome)) H) ∨
  ∃ (c : Nat) (z : Str), x = .str ⟨#[c]⟩ ∧ y = .str z ∧ Q (.bl (if neg then !decide (c ∈ z.cps.toList) else decide (c ∈ z.cps.toList))) H
theorem op_inX (hu : X.A.units + 65 < cLine) : OpR X (compareOp .In) (rInX X.K false) :=
  OpR.or (op_inD hu) (OpR.or op_in_seq (OpR.or (by
    intro pins s σ H x y v u Q I rx ry ⟨a, o, ey, g, q⟩
    subst ey
    cases ry
    exact d_in (Nat.lt_of_le_of_lt (Nat.add_le_add_left (by decide) _) hu) I g rx fun s3 I3 => ⟨.bl o.isSome, H, I3, rfl, q⟩) op_in_sign))
theorem op_notInX (hu : X.A.units + 65 < cLine) : OpR X (compareOp .NotIn) (rInX X.K true) :=
  OpR.or (op_notInD hu) (OpR.or op_notIn_seq (OpR.or (by
    intro pins s σ H x y v u Q I rx ry ⟨a, o, ey, g, q⟩
    subst ey
    cases ry
    exact d_notIn (Nat.lt_of_le_of_lt (Nat.add_le_add_left (by decide) _) hu) I g rx fun s3 I3 => ⟨.bl (!o.isSome), H, I3, rfl, q⟩) op_notIn_sign))
def gIn (x y : D) : Option R := (inD x y).map fun b => .fz (.bl b)
def gNotIn (x y : D) : Option R := (inD x y).map fun b => .fz (.bl (!b))
theorem in_ok {G H : Hp} {x y : D} {v u : V} {b : Bool} {Q : VK} (neg : Bool) (hG : Ex G H) (tx : Top K G H x v) (ty : Top K G H y u) (e : inD x y = some b) (q : Q (.bl (if neg then !b else b)) H) : rInX K neg v u H Q := by
  unfold inD at e
  split at e
  · unfold inDeep at e
    split at e
    · rename_i p ps e1 e2
      split at e
      · rename_i hs
        cases e
        have hs' := Bool.and_eq_true_iff.mp hs
        refine .inl ⟨p, ps, (tx.rep hG).dp e1, (ty.rep hG).dp ?_, hs'.1, hs'.2, q⟩
        unfold py
        rw [e2]
        rfl
      · cases e
    · cases e
  · unfold inFlat at e
    split at e
    · rename_i hs
      cases e
      have hs' := Bool.and_eq_true_iff.mp hs
      obtain ⟨h1, h2⟩ := flat_top tx hs'.1
      cases ty with
      | tup a r =>
      obtain ⟨h3, h4⟩ := flat_reps r hs'.2
      exact .inr (.inl ⟨_, _, rfl, .inr a, h2, h4, by rw [h1, h3]; exact q⟩)
    · cases e
  · cases ty with
    | dct a r =>
    obtain ⟨k, ek, rfl⟩ := Option.map_eq_some_iff.mp e
    have hk := keyD_top tx ek
    refine .inr (.inr (.inl ⟨_, _, rfl, .inl ⟨_, k, a, hk, rfl⟩, ?_⟩))
    rw [r.isSome]
    exact q
  · split at e
    · rename_i z c
      split at e
      · rename_i n en
        cases e
        cases tx
        cases ty
        refine .inr (.inr (.inr ⟨n, _, ?_, rfl, q⟩))
        congr 1
        cases c with
        | mk cps => cases cps with
          | mk l => simp only at en; subst en; rfl
      · cases e
    · cases e
  · cases e
theorem s_in : OpSound K gIn (rInX K false) := by
  intro G H x y v u z Q hG tx ty e q
  obtain ⟨b, eb, rfl⟩ := Option.map_eq_some_iff.mp e
  exact in_ok false hG tx ty eb (q _ .bl)
theorem s_notIn : OpSound K gNotIn (rInX K true) := by
  intro G H x y v u z Q hG tx ty e q
  obtain ⟨b, eb, rfl⟩ := Option.map_eq_some_iff.mp e
  exact in_ok true hG tx ty eb (q _ .bl)
end
end DN
set_option maxHeartbeats 2000000
namespace DN
open PySem PySem.Spec PyProof.Rows L2
open Evl (Ex)
section
variable {K : PySem.W.Frag} {X : Cx} {Wx : WX} {e a b c : Expr} {f h g3 : Env → O R} {pos p : Pos} {ta tb tc : TE} {tr : TA} {es : List Expr} {fs : Env → O (List R)}
def truD : D → Option Bool
  | .non => some false
  | .bl b => some b
  | .int i => some (i != 0)
  | .lst ds => some (!ds.isEmpty)
  | .tup ds => some (!ds.isEmpty)
  | .str z => if z.length ≤ 1000000 then some ((z.length : Int) != 0) else none
  | _ => none
theorem emp_eq {H : Hp} {ds : List D} {vs : List V} (r : Reps K H ds vs) : (!ds.isEmpty) = !vs.isEmpty := by cases r <;> rfl
theorem tru_top {G H : Hp} {d : D} {v : V} {k : Bool} (t : Top K G H d v) (e : truD d = some k) : TruV K v H k := by
  unfold truD at e
  split at e
  · cases e; cases t; exact rfl
  · cases e; cases t; exact rfl
  · cases e; cases t; exact rfl
  · cases e
    cases t with
    | lst a r => exact .inl ⟨_, a.sql, emp_eq r⟩
  · cases e
    cases t with
    | tup a r => exact .inr (.inl ⟨_, a, emp_eq r⟩)
  · split at e
    · rename_i hz
      cases e
      cases t
      exact ⟨million hz, rfl⟩
    · cases e
  · cases e
def dTru (f : Env → O R) : Env → O Bool := fun ρ => (dN f ρ).bind fun ρ r => match (useR ρ r).bind truD with
  | some b => .ok ρ b
  | none => .un
theorem dt_truth (ha : DE X Wx a ta f) (he : ∀ whole, isTrue a X.env whole = (do let v ← whole; standAt a.pos; holding [v] (truthy v)) := by intro _; rfl) :
    DT X Wx a (fun σ H Q => ta σ H fun x H' => ∃ k, TruV X.K x H' k ∧ Q k H') (dTru f) :=
  ⟨pt_truth ha.1 he, fun L G B H σ ρ Q s p => ha.2.n L G B H σ ρ _ s ((Post.bind p).imp fun ρ2 r2 G2 B2 H1 _ q2 v k2 => by
    have s2 := k2.state
    cases u : useR ρ2 r2 with
    | none => simp only [u, Option.bind_none] at q2; exact q2.elim
    | some d =>
      simp only [u, Option.bind_some] at q2
      cases et : truD d with
      | none => simp only [et] at q2; exact q2.elim
      | some k =>
        simp only [et] at q2
        exact ⟨k, tru_top (k2.use u) et, Post.okD q2 H1 s2⟩)⟩
def dChain (g g' : D → D → Option R) (f h c : Env → O R) : Env → O R := fun ρ => (dN f ρ).bind fun ρ r1 => (dN h ρ).bind fun ρ r2 => match useR ρ r1, useR ρ r2 with
  | some x, some y => match g x y with
    | some (.fz (.bl true)) => (dN c ρ).bind fun ρ r3 => match useR ρ r2, useR ρ r3 with
      | some y, some z => ret ρ (g' y z)
      | _, _ => .un
    | some (.fz (.bl false)) => .ok ρ (.fz (.bl false))
    | _ => .un
  | _, _ => .un
theorem sem_chain {g g' : D → D → Option R} {r r' : R2} (hg : OpSound X.K g r) (hg' : OpSound X.K g' r') (ha : SemE X Wx ta f) (hb : SemE X Wx tb h) (hc : SemE X Wx tc g3) : SemE X Wx (tChain r r' ta tb tc) (dChain g g' f h g3) := fun L G B H σ ρ Q s p =>
  ha.n L G B H σ ρ _ s ((Post.bind p).imp fun ρ1 r1 G1 B1 H1 _ q1 v k1 => k1.thenE hb.n ((Post.bind q1).imp fun ρ2 r2 G2 B2 H2 _ q2 w k2 => by
    have s2 := k2.state
    cases u1 : useR ρ2 r1 with
    | none => simp only [u1] at q2; exact q2.elim
    | some x =>
      cases u2 : useR ρ2 r2 with
      | none => simp only [u1, u2] at q2; exact q2.elim
      | some y =>
        simp only [u1, u2] at q2
        cases ez : g x y with
        | none => rw [ez] at q2; exact q2.elim
        | some z =>
          rw [ez] at q2
          cases z with
          | own d => exact q2.elim
          | bor i => exact q2.elim
          | tp qs => exact q2.elim
          | fz d =>
            cases d <;> try exact q2.elim
            rename_i b
            refine hg G2 H2 x y v w (.fz (.bl b)) _ s2.gh (k2.use u1) (k2.tail.use u2) ez fun v0 rv => ?_
            cases rv
            cases b with
            | false => exact ⟨false, rfl, by rw [if_neg Bool.false_ne_true]; exact Post.okD q2 H2 _ (.fz .bl (.nil s2))⟩
            | true =>
              refine ⟨true, rfl, ?_⟩
              rw [if_pos rfl]
              refine k2.tail.thenE hc.n ((Post.bind q2).imp fun ρ3 r3 G3 B3 H3 _ q3 w3 k3 => ?_)
              have s3 := k3.state
              cases u3 : useR ρ3 r2 with
              | none => simp only [u3] at q3; exact q3.elim
              | some y' =>
                cases u4 : useR ρ3 r3 with
                | none => simp only [u3, u4] at q3; exact q3.elim
                | some z' =>
                  simp only [u3, u4] at q3
                  obtain ⟨zz, ezz, rzz⟩ := ret_ok s3 q3
                  exact hg' G3 H3 y' z' w w3 zz Q s3.gh (k3.use u3) (k3.tail.use u4) ezz rzz))
theorem dt_chain {op op' : CmpOp} {g g' : D → D → Option R} {r r' : R2} (ho : OpR X (compareOp op) r) (ho' : OpR X (compareOp op') r') (hg : OpSound X.K g r) (hg' : OpSound X.K g' r') (ha : DE X Wx a ta f) (hb : DE X Wx b tb h) (hc : DE X Wx c tc g3)
    (hm : lastMarks [op, op'] [b, c] = false := by with_unfolding_all rfl) : DT X Wx (.Compare a [op, op'] [b, c] pos) (tTest (tChain r r' ta tb tc)) (dTest (dChain g g' f h g3)) :=
  ⟨pt_chain ho ho' ha.1 hb.1 hc.1 hm, sem_test (sem_chain hg hg' ha.2 hb.2 hc.2)⟩
def intsD : List D → Option (List Int)
  | [] => some []
  | .int i :: r => (intsD r).map (i :: ·)
  | _ => none
theorem intsD_eq : ∀ {ds : List D} {ns : List Int}, intsD ds = some ns → ds = ns.map D.int
  | [], _, e => by cases e; rfl
  | .int i :: r, ns, e => by
    unfold intsD at e
    obtain ⟨m, h, rfl⟩ := Option.map_eq_some_iff.mp e
    rw [intsD_eq h]
    rfl
  | .non :: _, _, e | .bl _ :: _, _, e | .str _ :: _, _, e | .ref _ :: _, _, e | .ty _ :: _, _, e | .lst _ :: _, _, e | .tup _ :: _, _, e | .dct _ :: _, _, e | .ins _ _ :: _, _, e => by simp [intsD] at e
def blsD : List D → Option (List Bool)
  | [] => some []
  | .bl i :: r => (blsD r).map (i :: ·)
  | _ => none
theorem blsD_eq : ∀ {ds : List D} {ns : List Bool}, blsD ds = some ns → ds = ns.map D.bl
  | [], _, e => by cases e; rfl
  | .bl i :: r, ns, e => by
    unfold blsD at e
    obtain ⟨m, h, rfl⟩ := Option.map_eq_some_iff.mp e
    rw [blsD_eq h]
    rfl
  | .non :: _, _, e | .int _ :: _, _, e | .str _ :: _, _, e | .ref _ :: _, _, e | .ty _ :: _, _, e | .lst _ :: _, _, e | .tup _ :: _, _, e | .dct _ :: _, _, e | .ins _ _ :: _, _, e => by simp [blsD] at e
theorem Reps.bls_inv {H : Hp} : ∀ {ns : List Bool} {vs : List V}, Reps K H (ns.map D.bl) vs → vs = ns.map V.bl
  | [], _, h => by cases h; rfl
  | n :: r, _, h => by
    cases h with
    | cons a b =>
      cases a
      rw [Reps.bls_inv b]
      rfl
theorem Tops.one_inv {G H : Hp} {d : D} {vs : List V} (t : Tops K G H [d] vs) : ∃ v, vs = [v] ∧ Top K G H d v := by
  cases t with
  | cons a r => cases r; exact ⟨_, rfl, a⟩
theorem Tops.two_inv {G H : Hp} {d d' : D} {vs : List V} (t : Tops K G H [d, d'] vs) : ∃ v v', vs = [v, v'] ∧ Top K G H d v ∧ Top K G H d' v' := by
  cases t with
  | cons a r => cases r with
    | cons a' r => cases r; exact ⟨_, _, rfl, a, a'⟩
def orC (a b : List D → Option R) (ds : List D) : Option R := match a ds with
  | some z => some z
  | none => b ds
theorem CallSound.or {g g' : List D → Option R} {r r' : List V → Hp → VK → Prop} (h : CallSound K g r) (h' : CallSound K g' r') : CallSound K (orC g g') fun xs H Q => r xs H Q ∨ r' xs H Q := by
  intro G H ds vs z Q hG t e q
  unfold orC at e
  split at e
  · rename_i z' ez
    cases e
    exact .inl (h G H ds vs z Q hG t ez q)
  · exact .inr (h' G H ds vs z Q hG t e q)
/-- len -/
def gLen : List D → Option R
  | [.lst ds] => some (.fz (.int ds.length))
  | [.tup ds] => some (.fz (.int ds.length))
  | [.dct kvs] => some (.fz (.int kvs.length))
  | [.str z] => if z.length ≤ 1000000 then some (.fz (.int z.length)) else none
  | _ => none
def rLen (K : PySem.W.Frag) : List V → Hp → VK → Prop := fun xs H Q => (∃ x n, xs = [x] ∧ LenV K x H n ∧ Q (.int n) H) ∨ ∃ a kvs, xs = [V.ref a] ∧ Rd H a (.dK kvs) ∧ Q (.int kvs.length) H
theorem c_len : CallR X (.builtin "len") (rLen X.K) := CallR.or call_len (by
  intro pins s σ H xs us Q I r ⟨a, kvs, ex, ha, q⟩
  subst ex
  rw [Vals.ref1 r]
  exact d_len I ha fun t s' I' => ⟨.int kvs.length, H, I', ⟨t, rfl⟩, q⟩)
theorem s_len : CallSound K gLen (rLen K) := by
  intro G H ds vs z Q hG t e q
  unfold gLen at e
  split at e
  · cases e
    obtain ⟨v, rfl, t1⟩ := t.one_inv
    cases t1 with
    | lst a r => exact .inl ⟨_, _, rfl, .inl ⟨_, a.sql, rfl⟩, by rw [r.length]; exact q _ .int⟩
  · cases e
    obtain ⟨v, rfl, t1⟩ := t.one_inv
    cases t1 with
    | tup a r => exact .inl ⟨_, _, rfl, .inr ⟨_, a, rfl⟩, by rw [r.length]; exact q _ .int⟩
  · cases e
    obtain ⟨v, rfl, t1⟩ := t.one_inv
    cases t1 with
    | dct a r => exact .inr ⟨_, _, rfl, a, by rw [r.length]; exact q _ .int⟩
  · obtain ⟨v, rfl, t1⟩ := t.one_inv
    split at e
    · rename_i hz
      cases e
      cases t1
      exact .inl ⟨_, _, rfl, ⟨million hz, rfl⟩, q _ .int⟩
    · cases e
  · cases e
/-- abs, int -/
def gAbs : List D → Option R
  | [.int i] => some (.fz (.int (if i < 0 then -i else i)))
  | _ => none
theorem s_abs : CallSound K gAbs (fun xs H Q => ∃ i, xs = [.int i] ∧ Q (.int (if i < 0 then -i else i)) H) := by
  intro G H ds vs z Q hG t e q
  unfold gAbs at e
  split at e
  · cases e
    obtain ⟨v, rfl, t1⟩ := t.one_inv
    cases t1
    exact ⟨_, rfl, q _ .int⟩
  · cases e
def gInt : List D → Option R
  | [.int i] => some (.fz (.int i))
  | [.bl b] => some (.fz (.int (if b then 1 else 0)))
  | _ => none
theorem s_int : CallSound K gInt (fun xs H Q => (∃ i, xs = [.int i] ∧ Q (.int i) H) ∨ ∃ k, xs = [.bl k] ∧ Q (.int (if k then 1 else 0)) H) := by
  intro G H ds vs z Q hG t e q
  unfold gInt at e
  split at e
  · cases e
    obtain ⟨v, rfl, t1⟩ := t.one_inv
    cases t1
    exact .inl ⟨_, rfl, q _ .int⟩
  · cases e
    obtain ⟨v, rfl, t1⟩ := t.one_inv
    cases t1
    exact .inr ⟨_, rfl, q _ .int⟩
  · cases e
/-- max, min -/
def maxI (n : Int) (ns : List Int) : Int := ns.foldl (fun a b => if a < b then b else a) n
def minI (n : Int) (ns : List Int) : Int := ns.foldl (fun a b => if b < a then b else a) n
theorem maxI_spec : ∀ (ns : List Int) (n : Int), maxI n ns ∈ n :: ns ∧ ∀ y ∈ n :: ns, y ≤ maxI n ns
  | [], n => ⟨by simp [maxI], fun y hy => by simp at hy; subst hy; exact Int.le_refl _⟩
  | m :: ns, n => by
    have e : maxI n (m :: ns) = maxI (if n < m then m else n) ns := rfl
    obtain ⟨h1, h2⟩ := maxI_spec ns (if n < m then m else n)
    rw [e]
    refine ⟨?_, fun y hy => ?_⟩
    · rcases List.mem_cons.mp h1 with q | q
      · rw [q]; split <;> simp
      · simp [q]
    · have hk : n ≤ (if n < m then m else n) ∧ m ≤ (if n < m then m else n) := by split <;> omega
      have h0 := h2 _ (List.mem_cons.mpr (.inl rfl))
      rcases List.mem_cons.mp hy with q | q
      · rw [q]; exact Int.le_trans hk.1 h0
      · rcases List.mem_cons.mp q with q | q
        · rw [q]; exact Int.le_trans hk.2 h0
        · exact h2 y (List.mem_cons.mpr (.inr q))
theorem minI_spec : ∀ (ns : List Int) (n : Int), minI n ns ∈ n :: ns ∧ ∀ y ∈ n :: ns, minI n ns ≤ y
  | [], n => ⟨by simp [minI], fun y hy => by simp at hy; subst hy; exact Int.le_refl _⟩
  | m :: ns, n => by
    have e : minI n (m :: ns) = minI (if m < n then m else n) ns := rfl
    obtain ⟨h1, h2⟩ := minI_spec ns (if m < n then m else n)
    rw [e]
    refine ⟨?_, fun y hy => ?_⟩
    · rcases List.mem_cons.mp h1 with q | q
      · rw [q]; split <;> simp
      · simp [q]
    · have hk : (if m < n then m else n) ≤ n ∧ (if m < n then m else n) ≤ m := by split <;> omega
      have h0 := h2 _ (List.mem_cons.mpr (.inl rfl))
      rcases List.mem_cons.mp hy with q | q
      · rw [q]; exact Int.le_trans h0 hk.1
      · rcases List.mem_cons.mp q with q | q
        · rw [q]; exact Int.le_trans h0 hk.2
        · exact h2 y (List.mem_cons.mpr (.inr q))
def gMax : List D → Option R
  | [.int i, .int j] => some (.fz (.int (if j > i then j else i)))
  | [.lst ds] => match intsD ds with
    | some (n :: ns) => some (.fz (.int (maxI n ns)))
    | _ => none
  | _ => none
def gMin : List D → Option R
  | [.int i, .int j] => some (.fz (.int (if j < i then j else i)))
  | [.lst ds] => match intsD ds with
    | some (n :: ns) => some (.fz (.int (minI n ns)))
    | _ => none
  | _ => none
def rMaxA (K : PySem.W.Frag) : List V → Hp → VK → Prop := fun xs H Q => (∃ i j, xs = [.int i, .int j] ∧ Q (.int (if j > i then j else i)) H) ∨ rMax K xs H Q
def rMinA (K : PySem.W.Frag) : List V → Hp → VK → Prop := fun xs H Q => (∃ i j, xs = [.int i, .int j] ∧ Q (.int (if j < i then j else i)) H) ∨ rMin K xs H Q
theorem c_max (hc : X.calm = true) : CallR X (.builtin "max") (rMaxA X.K) := CallR.or (call_max2 hc) (cr_max hc)
theorem c_min (hc : X.calm = true) : CallR X (.builtin "min") (rMinA X.K) := CallR.or (call_min2 hc) (cr_min hc)
theorem s_max : CallSound K gMax (rMaxA K) := by
  intro G H ds vs z Q hG t e q
  unfold gMax at e
  split at e
  · cases e
    obtain ⟨v, v', rfl, t1, t'⟩ := t.two_inv
    cases t1
    cases t'
    exact .inl ⟨_, _, rfl, q _ .int⟩
  · obtain ⟨v, rfl, t1⟩ := t.one_inv
    split at e
    · rename_i n ns en
      cases e
      cases t1 with
      | lst a r =>
      rw [intsD_eq en] at r
      have ev := r.ints_inv
      subst ev
      refine .inr ⟨_, _, rfl, a.sql, by simp, fun m h1 h2 => ?_⟩
      obtain ⟨k1, k2⟩ := maxI_spec ns n
      have : m = maxI n ns := Int.le_antisymm (k2 m h1) (h2 _ k1)
      rw [this]
      exact q _ .int
    · cases e
  · cases e
theorem s_min : CallSound K gMin (rMinA K) := by
  intro G H ds vs z Q hG t e q
  unfold gMin at e
  split at e
  · cases e
    obtain ⟨v, v', rfl, t1, t'⟩ := t.two_inv
    cases t1
    cases t'
    exact .inl ⟨_, _, rfl, q _ .int⟩
  · obtain ⟨v, rfl, t1⟩ := t.one_inv
    split at e
    · rename_i n ns en
      cases e
      cases t1 with
      | lst a r =>
      rw [intsD_eq en] at r
      have ev := r.ints_inv
      subst ev
      refine .inr ⟨_, _, rfl, a.sql, by simp, fun m h1 h2 => ?_⟩
      obtain ⟨k1, k2⟩ := minI_spec ns n
      have : m = minI n ns := Int.le_antisymm (h2 _ k1) (k2 m h1)
      rw [this]
      exact q _ .int
    · cases e
  · cases e
def gSum : List D → Option R
  | [.lst ds] => (intsD ds).map fun ns => .fz (.int ns.sum)
  | _ => none
theorem s_sum : CallSound K gSum (rSum K) := by
  intro G H ds vs z Q hG t e q
  unfold gSum at e
  split at e
  · obtain ⟨v, rfl, t1⟩ := t.one_inv
    obtain ⟨ns, en, rfl⟩ := Option.map_eq_some_iff.mp e
    cases t1 with
    | lst a r =>
    rw [intsD_eq en] at r
    have ev := r.ints_inv
    subst ev
    exact ⟨_, _, rfl, a.sql, q _ .int⟩
  · cases e
def gAll : List D → Option R
  | [.lst ds] => (blsD ds).map fun ns => .fz (.bl (ns.all id))
  | _ => none
def gAny : List D → Option R
  | [.lst ds] => (blsD ds).map fun ns => .fz (.bl (ns.any id))
  | _ => none
theorem s_all : CallSound K gAll (rAll K) := by
  intro G H ds vs z Q hG t e q
  unfold gAll at e
  split at e
  · obtain ⟨v, rfl, t1⟩ := t.one_inv
    obtain ⟨ns, en, rfl⟩ := Option.map_eq_some_iff.mp e
    cases t1 with
    | lst a r =>
    rw [blsD_eq en] at r
    have ev := r.bls_inv
    subst ev
    exact ⟨_, _, rfl, a.sql, q _ .bl⟩
  · cases e
/-- sorted -/
def insI (n : Int) : List Int → List Int
  | [] => [n]
  | m :: r => if n ≤ m then n :: m :: r else m :: insI n r
def sortI : List Int → List Int
  | [] => []
  | n :: r => insI n (sortI r)
theorem insI_perm (n : Int) : ∀ l : List Int, (insI n l).Perm (n :: l)
  | [] => .refl _
  | m :: r => by
    unfold insI
    split
    · exact .refl _
    · exact ((insI_perm n r).cons m).trans (List.Perm.swap n m r)
theorem sortI_perm : ∀ l : List Int, (sortI l).Perm l
  | [] => .refl _
  | n :: r => (insI_perm n (sortI r)).trans ((sortI_perm r).cons n)
theorem insI_srt (n : Int) : ∀ l : List Int, l.Pairwise (· ≤ ·) → (insI n l).Pairwise (· ≤ ·)
  | [], _ => List.pairwise_singleton _ _
  | m :: r, h => by
    obtain ⟨h1, h2⟩ := List.pairwise_cons.mp h
    unfold insI
    split
    · rename_i hn
      refine List.pairwise_cons.mpr ⟨fun y hy => ?_, h⟩
      rcases List.mem_cons.mp hy with q | q
      · rw [q]; exact hn
      · exact Int.le_trans hn (h1 y q)
    · rename_i hn
      refine List.pairwise_cons.mpr ⟨fun y hy => ?_, insI_srt n r h2⟩
      rcases List.mem_cons.mp ((insI_perm n r).mem_iff.mp hy) with q | q
      · rw [q]; omega
      · exact h1 y q
theorem sortI_srt : ∀ l : List Int, (sortI l).Pairwise (· ≤ ·)
  | [] => .nil
  | n :: r => insI_srt n _ (sortI_srt r)
theorem srt_uniq : ∀ {l m : List Int}, l.Perm m → l.Pairwise (· ≤ ·) → m.Pairwise (· ≤ ·) → l = m
  | [], m, p, _, _ => (List.nil_perm.mp p).symm
  | a :: l, [], p, _, _ => absurd (List.perm_nil.mp p) (by simp)
  | a :: l, b :: m, p, h, k => by
    obtain ⟨h1, h2⟩ := List.pairwise_cons.mp h
    obtain ⟨k1, k2⟩ := List.pairwise_cons.mp k
    have hab : a = b := by
      have ha : a ∈ b :: m := p.mem_iff.mp (List.mem_cons.mpr (.inl rfl))
      have hb : b ∈ a :: l := p.mem_iff.mpr (List.mem_cons.mpr (.inl rfl))
      rcases List.mem_cons.mp ha with q | q
      · exact q
      · rcases List.mem_cons.mp hb with r | r
        · exact r.symm
        · exact Int.le_antisymm (h1 b r) (k1 a q)
    subst hab
    rw [srt_uniq ((List.perm_cons a).mp p) h2 k2]
theorem sortI_uniq {l m : List Int} (p : m.Perm l) (h : m.Pairwise (· ≤ ·)) : m = sortI l := srt_uniq (p.trans (sortI_perm l).symm) h (sortI_srt l)
def keysI : List (Key × D) → Option (List Int)
  | [] => some []
  | (.inl i, _) :: r => (keysI r).map (i :: ·)
  | _ => none
theorem keysI_eq : ∀ {kvs : List (Key × D)} {ks : List Int}, keysI kvs = some ks → kvs.map (·.1) = ks.map Sum.inl
  | [], _, e => by cases e; rfl
  | (.inl i, d) :: r, ns, e => by
    unfold keysI at e
    obtain ⟨m, h, rfl⟩ := Option.map_eq_some_iff.mp e
    rw [List.map_cons, keysI_eq h]
    rfl
  | (.inr _, _) :: _, _, e => by simp [keysI] at e
def gSorted : List D → Option R
  | [.lst ds] => (intsD ds).map fun ns => .own (.lst ((sortI ns).map .int))
  | [.dct kvs] => match keysI kvs with
    | some ks => if ks.length < 64 then some (.own (.lst ((sortI ks).map .int))) else none
    | none => none
  | _ => none
def rSrt (K : PySem.W.Frag) : List V → Hp → VK → Prop := fun xs H Q => rSortedI K xs H Q ∨ ∃ (a : Addr) (kvs : List (Key × V)) (ks : List Int), xs = [.ref a] ∧ Rd H a (.dK kvs) ∧ kvs.map (·.1) = ks.map Sum.inl ∧ ks.length < 64 ∧
    ∀ (ys : List Int) (p : Addr), ys.Perm ks → ys.Pairwise (· ≤ ·) → H p = none → Q (.ref p) (upd H p (.lst (ys.map V.int)))
theorem c_sorted (hc : X.calm = true) : CallR X (.builtin "sorted") (rSrt X.K) := CallR.or cr_sortedI (call_sortedDI hc)
theorem s_sorted : CallSound K gSorted (rSrt K) := by
  intro G H ds vs z Q hG t e q
  unfold gSorted at e
  split at e
  · obtain ⟨v, rfl, t1⟩ := t.one_inv
    obtain ⟨ns, en, rfl⟩ := Option.map_eq_some_iff.mp e
    cases t1 with
    | lst a r =>
    rw [intsD_eq en] at r
    have ev := r.ints_inv
    subst ev
    exact .inl ⟨_, _, rfl, a.sql, fun ms p h1 h2 hp => by rw [sortI_uniq h1 h2]; exact q p _ hp (.lst (Reps.ints _))⟩
  · obtain ⟨v, rfl, t1⟩ := t.one_inv
    split at e
    · rename_i ks ek
      split at e
      · rename_i hl
        cases e
        cases t1 with
        | dct a r => exact .inr ⟨_, _, ks, rfl, a, by rw [r.keys, keysI_eq ek], hl, fun ms p h1 h2 hp => by rw [sortI_uniq h1 h2]; exact q p _ hp (.lst (Reps.ints _))⟩
      · cases e
    · cases e
  · cases e
/-- list, tuple -/
def keyV : Key → D
  | .inl i => .int i
  | .inr x => .str x
theorem reps_keys {G : Hp} : ∀ (ks : List Key), Reps K G (ks.map keyV) (ks.map kV)
  | [] => .nil
  | .inl i :: r => .cons .int (reps_keys r)
  | .inr x :: r => .cons .str (reps_keys r)
def gList : List D → Option R
  | [.lst ds] => some (.own (.lst ds))
  | [.tup ds] => some (.own (.lst ds))
  | [.dct kvs] => some (.own (.lst (kvs.map fun kv => keyV kv.1)))
  | _ => none
def rListA (K : PySem.W.Frag) : List V → Hp → VK → Prop := fun xs H Q => (∃ p ys, xs = [.ref p] ∧ (SqL K H p ys ∨ SqT K H p ys) ∧ ∀ l, H l = none → Q (.ref l) (upd H l (.lst ys))) ∨
  ∃ (a : Addr) (kvs : List (Key × V)), xs = [.ref a] ∧ Rd H a (.dK kvs) ∧ ∀ p, H p = none → Q (.ref p) (upd H p (.lst (kvs.map fun kv => kV kv.1)))
theorem c_list (hc : X.calm = true) : CallR X (.type "list") (rListA X.K) := CallR.or call_list_of (call_listD hc)
theorem s_list : CallSound K gList (rListA K) := by
  intro G H ds vs z Q hG t e q
  unfold gList at e
  split at e
  · cases e
    obtain ⟨v, rfl, t1⟩ := t.one_inv
    cases t1 with
    | lst a r => exact .inl ⟨_, _, rfl, .inl a.sql, fun p hp => q p _ hp (.lst r)⟩
  · cases e
    obtain ⟨v, rfl, t1⟩ := t.one_inv
    cases t1 with
    | tup a r => exact .inl ⟨_, _, rfl, .inr a, fun p hp => q p _ hp (.lst r)⟩
  · rename_i kvs
    cases e
    obtain ⟨v, rfl, t1⟩ := t.one_inv
    cases t1 with
    | @dct a0 _ kws a r =>
      refine .inr ⟨_, _, rfl, a, fun p hp => q p _ hp (.lst ?_)⟩
      have e1 := r.keys
      have g1 : (kws.map fun kv => kV kv.1) = (kvs.map (·.1)).map kV := by rw [← e1, List.map_map]; rfl
      have g2 : (kvs.map fun kv => keyV kv.1) = (kvs.map (·.1)).map keyV := by rw [List.map_map]; rfl
      rw [g1, g2]
      exact reps_keys _
  · cases e
def gTuple : List D → Option R
  | [.lst ds] => some (.own (.tup ds))
  | _ => none
end
end DN
set_option maxHeartbeats 2000000
namespace DN
open PySem PySem.Spec PyProof.Rows L2
open Evl (Ex)
section
variable {K : PySem.W.Frag} {X : Cx} {Wx : WX} {e a b c : Expr} {f h g3 : Env → O R} {pos p : Pos} {ta tb tc : TE} {tr : TA} {es : List Expr} {fs : Env → O (List R)}
def dE (f : Env → O R) : Env → O R := fun ρ => (f ρ).bind fun ρ r => (esc ρ r).bind fun ρ d => .ok ρ (.fz d)
theorem SemE.froz {t : TE} (ha : SemE X Wx t f) : SemE X Wx t (dE f) := fun L G B H σ ρ Q s p =>
  ha L G B H σ ρ _ s ((Post.bind p).imp fun ρ1 r1 G1 B1 H1 _ q v k => by
    obtain ⟨ρ2, d, G2, B2, _, g2, k2, q2⟩ := k.escP (Post.bind q)
    exact Post.okD q2 _ v k2)
theorem OkS.mut {L : Lent} {G B H : Hp} {σ : L2.St} {ρ : Env} {j : Nat} {l : Addr} {d d' : D} {o' : HO} (s : OkS K L G B H σ ρ) (hj : ρ[j]? = some (.own d)) (h1 : σ[j]? = some (some (.ref l))) (r : RepO K G d' o') :
    OkS K L G B (upd H l o') σ (ρ.set j (.own d')) := by
  obtain ⟨l', o, h1', h2, h3, h4⟩ := s.ow j d hj
  rw [h1] at h1'
  cases h1'
  have hg : G l = none := none_of_ex s.gb h2
  have t := s.takeSlot hj h1 h2 h3
  have w := t.rewrite (o' := o') upd_same hg (s.lb.nl h2)
  have eu : upd (upd B l o) l o' = upd B l o' := by
    funext b
    by_cases hb : b = l
    · subst hb; rw [upd_same, upd_same]
    · rw [upd_ne hb, upd_ne hb, upd_ne hb]
  rw [eu] at w
  have q := w.putSlot hg (s.lb.nl h2) h2 r h1
  rw [List.set_set] at q
  exact q
theorem OkVs.mut {L : Lent} {G B H : Hp} {σ : L2.St} {ρ : Env} {j : Nat} {l : Addr} {d d' : D} {o' : HO} {rs : List R} {vs : List V} (k : OkVs K L G H σ ρ B rs vs) (hn : ∀ r ∈ rs, ∃ x, r = R.fz x) (hj : ρ[j]? = some (.own d)) (h1 : σ[j]? = some (some (.ref l))) (r : RepO K G d' o') :
    OkVs K L G (upd H l o') σ (ρ.set j (.own d')) B rs vs := by
  induction k with
  | nil s => exact .nil (s.mut hj h1 r)
  | fz a _ ih => exact .fz a (ih (fun x hx => hn x (List.mem_cons_of_mem _ hx)))
  | bor _ _ _ => obtain ⟨x, hx⟩ := hn _ List.mem_cons_self; cases hx
  | own _ _ _ _ _ _ => obtain ⟨x, hx⟩ := hn _ List.mem_cons_self; cases hx
  | tp _ _ _ _ _ _ => obtain ⟨x, hx⟩ := hn _ List.mem_cons_self; cases hx
def MutSound (K : PySem.W.Frag) (g : D → List D → Option (D × D)) (r : V → List V → Hp → VK → Prop) : Prop := ∀ G H l o d ds d' y vs Q, Ex G H → RepO K G d o → H l = some o → Tops K G H ds vs → Reps K G ds vs → g d ds = some (d', y) →
  (∀ o' v, RepO K G d' o' → Rep K G y v → Q v (upd H l o')) → r (.ref l) vs H Q
def isLst : D → Bool
  | .lst _ => true
  | _ => false
def dBM (j : Nat) (okT : D → Bool) (g : D → List D → Option (D × D)) (fs : Env → O (List R)) : Env → O R := fun ρ => match ρ[j]? with
  | some (.own d0) => if okT d0 = true then (fs ρ).bind fun ρ rs => (escs ρ rs).bind fun ρ ds => match ρ[j]? with
      | some (.own d) => match g d ds with
        | some (d', y) => .ok (ρ.set j (.own d')) (.fz y)
        | none => .un
      | _ => .un
    else .un
  | _ => .un
def TyOk (K : PySem.W.Frag) (T : String) (okT : D → Bool) : Prop := ∀ G H l d o, RepO K G d o → H l = some o → okT d = true → tyV K T (.ref l) H
theorem ty_lst : TyOk K "list" isLst := by
  intro G H l d o r hl e
  cases r <;> first | exact Bool.noConfusion e | skip
  exact .inl ⟨rfl, _, .inl (.inl hl)⟩
theorem sem_bm {T : String} {okT : D → Bool} {g : D → List D → Option (D × D)} {r : V → List V → Hp → VK → Prop} {j : Nat} (hT : TyOk X.K T okT) (hg : MutSound X.K g r) (ha : SemA X Wx tr fs) : SemE X Wx (tBM X.K T r (tVar j) tr) (dBM j okT g fs) := fun L G B H σ ρ Q s p => by
  unfold dBM at p
  cases e0 : ρ[j]? with
  | none => simp only [e0] at p; exact p.elim
  | some q0 =>
    cases q0 with
    | un => simp only [e0] at p; exact p.elim
    | fz _ => simp only [e0] at p; exact p.elim
    | ln _ => simp only [e0] at p; exact p.elim
    | own d0 =>
      simp only [e0] at p
      obtain ⟨l, o, h1, h2, h3, h4⟩ := s.ow j d0 e0
      by_cases ht : okT d0 = true
      · rw [if_pos ht] at p
        refine ⟨_, h1, hT G H l d0 o h4 h3 ht, ha L G B H σ ρ _ s ((Post.bind p).imp fun ρ1 r1 G1 B1 H1 _ q vs k => ?_)⟩
        obtain ⟨ρ2, ds, G2, B2, _, g2, s2, rp, q2⟩ := k.escsP (Post.bind q)
        cases e1 : ρ2[j]? with
        | none => simp only [e1] at q2; exact q2.elim
        | some q1 =>
          cases q1 with
          | un => simp only [e1] at q2; exact q2.elim
          | fz _ => simp only [e1] at q2; exact q2.elim
          | ln _ => simp only [e1] at q2; exact q2.elim
          | own d =>
            simp only [e1] at q2
            obtain ⟨l', o1, k1, k2, k3, k4⟩ := s2.ow j d e1
            rw [h1] at k1
            cases k1
            cases e2 : g d ds with
            | none => simp only [e2] at q2; exact q2.elim
            | some z =>
              obtain ⟨d', y⟩ := z
              simp only [e2] at q2
              have tops : ∀ {ds : List D} {vs : List V}, Reps X.K G2 ds vs → Tops X.K G2 H1 ds vs := fun {ds vs} h => by
                have key : ∀ (ds : List D) (vs : List V), Reps X.K G2 ds vs → Tops X.K G2 H1 ds vs := by
                  intro ds
                  induction ds with
                  | nil => intro vs h; cases h; exact .nil
                  | cons d ds ih => intro vs h; cases h with | cons a t => exact .cons (a.top s2.gh) (ih _ t)
                exact key ds vs h
              exact hg G2 H1 _ o1 d ds d' y vs Q s2.gh k4 k3 (tops rp) rp e2 fun o' v r1 r2 => Post.okD q2 _ v (.fz r2 (.nil (s2.mut e1 h1 r1)))
      · rw [if_neg ht] at p; exact p.elim
theorem de_bm {x name : Str} {px apos cpos : Pos} {T id : String} {okT : D → Bool} {g : D → List D → Option (D × D)} {r : V → List V → Hp → VK → Prop} (j : Nat) (pa : PlainAttrs T) (slot : Slot T name id) (hty : typeOf (.builtin id) = pure (.type "method_descriptor")) (hm : MtR X id r)
    (hT : TyOk X.K T okT) (hg : MutSound X.K g r) (ha : DA X Wx (e :: es) tr fs) (hN : X.N[j]? = some x := by rfl) (hv : Vis X.env.scope x := by first | exact Or.inl rfl | exact Or.inr (Or.inl rfl) | exact Or.inr (Or.inr rfl))
    (hd : (x == ("__debug__" : Str)) = false := by decide) (hcd : (x == ("__classdict__" : Str)) = false := by decide)
    (hbase : attributeBase (.Name x px) name X.env (eval (.Name x px) X.env) = eval (.Name x px) X.env := by rfl)
    (hfew : ((backTo cpos (starEach (e :: es) X.env)).all (fun x => !x.1) && (backToKw cpos (keywordEach [] X.env)).all (fun x => x.1.isSome)
      && decide ((e :: es).length + ([] : List Keyword).length + (if ([] : List Keyword).isEmpty then 0 else 1) < 30)) = true := by rfl)
    (hline : (apos.endLine == cpos.line) = true := by rfl) (hs : starEach (e :: es) X.env = (false, eval e X.env) :: starEach es X.env := by rfl) (hplain : (backTo cpos (starEach es X.env)).any (·.1) = false := by rfl) :
    DE X Wx (.Call (.Attribute (.Name x px) name apos) (e :: es) [] cpos) (tBM X.K T r (tVar j) tr) (dBM j okT g fs) :=
  ⟨pe_bm pa slot hty hm (pe_var hN hv hd hcd) ha.1 hbase hfew hline hs hplain, sem_bm hT hg ha.2⟩
theorem de_bm0 {x name : Str} {px apos cpos : Pos} {T id : String} {okT : D → Bool} {g : D → List D → Option (D × D)} {r : V → List V → Hp → VK → Prop} (j : Nat) (pa : PlainAttrs T) (slot : Slot T name id) (hty : typeOf (.builtin id) = pure (.type "method_descriptor")) (hm : MtR X id r)
    (hT : TyOk X.K T okT) (hg : MutSound X.K g r) (hN : X.N[j]? = some x := by rfl) (hv : Vis X.env.scope x := by first | exact Or.inl rfl | exact Or.inr (Or.inl rfl) | exact Or.inr (Or.inr rfl))
    (hd : (x == ("__debug__" : Str)) = false := by decide) (hcd : (x == ("__classdict__" : Str)) = false := by decide)
    (hbase : attributeBase (.Name x px) name X.env (eval (.Name x px) X.env) = eval (.Name x px) X.env := by rfl) (hline : (apos.endLine == cpos.line) = true := by rfl) :
    DE X Wx (.Call (.Attribute (.Name x px) name apos) [] [] cpos) (tBM0 X.K T r (tVar j)) (dBM j okT g dNil) :=
  ⟨pe_bm0 pa slot hty hm (pe_var hN hv hd hcd) hbase hline, fun L G B H σ ρ Q s p => sem_bm (tr := tNil) hT hg da_nil.2 L G B H σ ρ Q s p⟩
def gAppend (d : D) (ds : List D) : Option (D × D) := match d, ds with
  | .lst xs, [y] => if xs.length ≤ 100000 then some (.lst (xs ++ [y]), .non) else none
  | _, _ => none
theorem s_append : MutSound K gAppend rAppend := by
  intro G H l o d ds d' y vs Q hG r hl tt t e q
  unfold gAppend at e
  split at e
  · split at e
    · rename_i hz
      cases e
      cases r with
      | lst r =>
      cases t with
      | cons t0 t1 =>
      cases t1
      exact ⟨_, _, _, rfl, rfl, hl, by rw [r.length, sizeLine_eq]; omega, q _ _ (.lst (r.append (.cons t0 .nil))) .non⟩
    · cases e
  · cases e
def gPop0 (d : D) (ds : List D) : Option (D × D) := match d, ds with
  | .lst xs, [] => (xs[xs.length - 1]?).map fun y => (.lst xs.dropLast, y)
  | _, _ => none
theorem Reps.dropLast {H : Hp} : ∀ {ds : List D} {vs : List V}, Reps K H ds vs → Reps K H ds.dropLast vs.dropLast
  | _, _, .nil => .nil
  | _, _, .cons _ .nil => .nil
  | _, _, .cons r (.cons q t) => .cons r (Reps.dropLast (.cons q t))
theorem Reps.eraseIdx {H : Hp} : ∀ {ds : List D} {vs : List V} (i : Nat), Reps K H ds vs → Reps K H (ds.eraseIdx i) (vs.eraseIdx i)
  | _, _, _, .nil => .nil
  | _, _, 0, .cons _ t => t
  | _, _, i + 1, .cons r t => .cons r (Reps.eraseIdx i t)
theorem s_pop0 : MutSound K gPop0 rPop := by
  intro G H l o d ds d' y vs Q hG r hl tt t e q
  unfold gPop0 at e
  split at e
  · obtain ⟨y0, e1, e2⟩ := Option.map_eq_some_iff.mp e
    cases e2
    cases r with
    | lst r =>
    cases t
    obtain ⟨v, h1, h2⟩ := r.get e1
    exact ⟨_, _, v, rfl, rfl, hl, by rw [r.length]; exact h1, q _ _ (.lst r.dropLast) h2⟩
  · cases e
def gPop1 (d : D) (ds : List D) : Option (D × D) := match d, ds with
  | .lst xs, [.int i] => if decide (-(2 ^ 63) ≤ i ∧ i < 2 ^ 63) = true then (seqIndex? i xs.length).bind fun k => (xs[k]?).map fun y => (.lst (xs.eraseIdx k), y) else none
  | _, _ => none
theorem s_pop1 : MutSound K gPop1 rPopAt := by
  intro G H l o d ds d' y vs Q hG r hl tt t e q
  unfold gPop1 at e
  split at e
  · split at e
    · rename_i hz
      have hz := of_decide_eq_true hz
      obtain ⟨k, e0, e⟩ := Option.bind_eq_some_iff.mp e
      obtain ⟨y0, e1, e2⟩ := Option.map_eq_some_iff.mp e
      cases e2
      cases r with
      | lst r =>
      cases t with
      | cons t0 t1 =>
      cases t1
      cases t0
      obtain ⟨v, h1, h2⟩ := r.get e1
      exact ⟨_, _, _, k, v, rfl, rfl, hl, hz.1, hz.2, by rw [r.length]; exact e0, h1, q _ _ (.lst (r.eraseIdx k)) h2⟩
    · cases e
  · cases e
def gExtend (d : D) (ds : List D) : Option (D × D) := match d, ds with
  | .lst xs, [.lst ys] => if xs.length + ys.length ≤ 100000 then some (.lst (xs ++ ys), .non) else none
  | _, _ => none
def rExtX (K : PySem.W.Frag) : V → List V → Hp → VK → Prop := fun x vs H Q => ∃ l b xs zs, x = .ref l ∧ vs = [.ref b] ∧ H l = some (.lst xs) ∧ SqX K H b zs ∧ xs.length + zs.length ≤ sizeLine ∧ Q .non (upd H l (.lst (xs ++ zs)))
theorem mt_extX : MtR X "list.extend" (rExtX X.K) := by
  intro pins s σ H x vs v us Q I rx rv ⟨l, b, xs, zs, ex, ev, hH, hB, hz, q⟩
  subst ex ev
  cases rx
  obtain ⟨u, rfl, ru⟩ := rv.one
  cases ru
  obtain ⟨z, its, n, r, hl, e⟩ := I.lstM hH
  obtain ⟨its2, n2, r2, e2, z2⟩ := hB.get I
  have hsz : its.toArray.size + its2.toArray.size ≤ sizeLine := by
    have q1 := r.length
    have q2 := r2.length
    simp only [List.size_toArray]
    omega
  refine call_meets F.slot_list_extend ⟨_, e, rfl⟩ F.entry_list_extend (F.args_list_extend_2 _ _) (AutoSeq1.list_extend_list_list_0 l its.toArray n b its2.toArray n2 (by rw [notLongL hsz, Bool.and_false]; exact Bool.false_ne_true)
    (by have := r.length; simp only [List.size_toArray]; omega) (by have := r2.length; simp only [List.size_toArray]; omega)) ⟨e, e2, .non, _, I.lset (its' := its ++ its2) (t' := s.toks) hH e (by simp) (r.append r2) (by rw [List.length_append]; omega), rfl, q⟩
theorem s_extend : MutSound K gExtend (rExtX K) := by
  intro G H l o d ds d' y vs Q hG r hl tt t e q
  unfold gExtend at e
  split at e
  · split at e
    · rename_i hz
      cases e
      cases r with
      | lst r =>
      cases t with
      | cons t0 t1 =>
      cases t1
      cases t0 with
      | lst a0 r0 => exact ⟨_, _, _, _, rfl, rfl, hl, SqX.mono hG a0, by rw [r.length, r0.length]; exact line_of hz, q _ _ (.lst (r.append r0)) .non⟩
    · cases e
  · cases e
def dMR (okT : D → Bool) (g : D → List D → Option R) (f : Env → O R) (fs : Env → O (List R)) : Env → O R := fun ρ => (dN f ρ).bind fun ρ r => match useR ρ r with
  | some d0 => if okT d0 = true then (fs ρ).bind fun ρ rs => match useR ρ r, usesR ρ rs with
    | some d, some ds => ret ρ (g d ds)
    | _, _ => .un else .un
  | none => .un
end
end DN
set_option maxHeartbeats 2000000
namespace DN
open PySem PySem.Spec PyProof.Rows L2
open Evl (Ex)
section
variable {K : PySem.W.Frag} {X : Cx} {Wx : WX} {e a b c : Expr} {f h g3 : Env → O R} {pos p : Pos} {ta tb tc : TE} {tr : TA} {es : List Expr} {fs : Env → O (List R)}
def SetSound (K : PySem.W.Frag) (gs : D → D → D → Option D) (t : TSet) : Prop := ∀ G H l o x y d x' u w Q, Ex G H → RepO K G x o → H l = some o → Top K G H y u → Rep K G d w → gs x y d = some x' → (∀ o', RepO K G x' o' → Q (upd H l o')) → t (.ref l) u w H Q
theorem PSet.or {t t' : TSet} (h : PSet X t) (h' : PSet X t') : PSet X (fun o i v H Q => t o i v H Q ∨ t' o i v H Q) := by
  intro pins s σ H o i v ov iv u Q I ro ri rv q
  rcases q with q | q
  · exact h pins s σ H o i v ov iv u Q I ro ri rv q
  · exact h' pins s σ H o i v ov iv u Q I ro ri rv q
def rSetA : TSet := fun o i v H Q => rSetL o i v H Q ∨ rSetD o i v H Q
theorem set_any (hu : X.A.units + 1 < cLine) : PSet X rSetA := PSet.or set_list (set_dict hu)
def gPut (x y d : D) : Option D := match x with
  | .lst xs => match y with
    | .int k => (ixN xs.length k).map fun j => .lst (xs.set j d)
    | _ => none
  | .dct kvs => match keyD y with
    | some k => if kvs.length ≤ 100000 then some (.dct (putD kvs k d)) else none
    | none => none
  | _ => none
theorem s_put : SetSound K gPut rSetA := by
  intro G H l o x y d x' u w Q hG r hl t rd e q
  unfold gPut at e
  split at e
  · split at e
    · obtain ⟨j, ej, rfl⟩ := Option.map_eq_some_iff.mp e
      cases r with
      | lst r =>
      cases t
      exact .inl ⟨_, _, _, j, rfl, rfl, hl, by rw [r.length]; exact ej, q _ (.lst (Reps.set rd j r))⟩
    · cases e
  · split at e
    · rename_i k ek
      split at e
      · rename_i hz
        cases e
        cases r with
        | dct r => exact .inr ⟨_, _, rfl, .inl ⟨_, k, hl, keyD_top t ek, by rw [r.length, sizeLine_eq]; omega, rfl⟩, q _ (.dct (r.put rd))⟩
      · cases e
    · cases e
  · cases e
def ownAt (ρ : Env) (j : Nat) : Option D := match ρ[j]? with
  | some (.own x) => some x
  | _ => none
theorem ownAt_eq {ρ : Env} {j : Nat} {x : D} (h : ownAt ρ j = some x) : ρ[j]? = some (.own x) := by
  unfold ownAt at h
  split at h
  · rename_i x' e
    cases h
    exact e
  · cases h
def dSetI (j : Nat) (gs : D → D → D → Option D) (fi fv : Env → O R) : Env → O Fl := fun ρ => (dE fv ρ).bind fun ρ r => match ownAt ρ j with
  | some _ => (dN fi ρ).bind fun ρ ri => match r, useR ρ ri, ownAt ρ j with
    | .fz d, some y, some x => match gs x y d with
      | some x' => .ok (ρ.set j (.own x')) .nx
      | none => .un
    | _, _, _ => .un
  | none => .un
theorem OkVs.two_fz {L : Lent} {G B H : Hp} {σ : L2.St} {ρ : Env} {d : D} {r : R} {v u : V} (k : OkVs K L G H σ ρ B [.fz d, r] [v, u]) : Rep K G d v ∧ OkVs K L G H σ ρ B [r] [u] := by
  cases k with
  | fz a b => exact ⟨a, b⟩
theorem sem_setI {j : Nat} {gs : D → D → D → Option D} {t : TSet} {ti tv : TE} {fi fv : Env → O R} (hg : SetSound X.K gs t) (hi : SemE X Wx ti fi) (hv : SemE X Wx tv fv) : SemS X Wx [] (tAsg tv (L2.gSub (tVar j) ti t)) (dSetI j gs fi fv) := fun L G B H σ ρ D s p =>
  hv.froz L G B H σ ρ _ s ((PostS.bind p).imp fun ρ1 r1 G1 B1 H1 _ q1 v k1 => by
    have s1 := k1.state
    cases e1 : ownAt ρ1 j with
    | none => simp only [e1] at q1; exact q1.elim
    | some x0 =>
      simp only [e1] at q1
      obtain ⟨l, o0, h1, _⟩ := s1.ow j x0 (ownAt_eq e1)
      refine ⟨_, h1, k1.thenE hi.n ((PostS.bind q1).imp fun ρ2 r2 G2 B2 H2 _ q2 u k2 => ?_)⟩
      have s2 := k2.state
      cases r1 with
      | fz d =>
        obtain ⟨rd, k3⟩ := OkVs.two_fz k2
        cases eu : useR ρ2 r2 with
        | none => simp only [eu] at q2; exact q2.elim
        | some y =>
          cases e2 : ownAt ρ2 j with
          | none => simp only [eu, e2] at q2; exact q2.elim
          | some x =>
            simp only [eu, e2] at q2
            cases e3 : gs x y d with
            | none => simp only [e3] at q2; exact q2.elim
            | some x' =>
              simp only [e3] at q2
              obtain ⟨l', o, h1', _, h3, h4⟩ := s2.ow j x (ownAt_eq e2)
              rw [h1] at h1'
              cases h1'
              exact hg G2 H2 l o x y d x' u v _ s2.gh h4 h3 (k3.use eu) rd e3 fun o' r => q2 G2 B2 _ σ .refl .refl (s2.mut (ownAt_eq e2) h1 r)
      | own _ => exact q2.elim
      | bor _ => exact q2.elim
      | tp _ => exact q2.elim)
theorem ds_setI {x : Str} {px p1 : Pos} {ix v : Expr} {ti tv : TE} {fi fv : Env → O R} (j : Nat) (hu : X.A.units + 1 < cLine) (hi : DE X Wx ix ti fi) (hv : DE X Wx v tv fv) (hN : X.N[j]? = some x := by rfl)
    (hvis : Vis X.env.scope x := by first | exact Or.inl rfl | exact Or.inr (Or.inl rfl) | exact Or.inr (Or.inr rfl)) (hd : (x == ("__debug__" : Str)) = false := by decide) (hcd : (x == ("__classdict__" : Str)) = false := by decide)
    (ha : ∀ v, assign (.Subscript (.Name x px) ix p1) X.env v = (do
      let ov ← holding [v] (eval (.Name x px) X.env)
      let iv ← holding [v, ov] (eval ix X.env)
      standAt p1
      holding [v, ov, iv] (setItem ov iv v)
      release [v, ov, iv] []) := by intro _; rfl)
    (hs : swapsWithSole [.Subscript (.Name x px) ix p1] v pos.line X.env = pure false := by rfl) (hw : swappedStores [.Subscript (.Name x px) ix p1] v X.env = pure none := by rfl)
    (h1 : (assignEach [.Subscript (.Name x px) ix p1] X.env).map (·.2) = [assign (.Subscript (.Name x px) ix p1) X.env] := by rfl) :
    DS X Wx [] (.Assign [.Subscript (.Name x px) ix p1] v pos) (tAsg tv (L2.gSub (tVar j) ti rSetA)) (dSetI j gPut fi fv) :=
  ⟨ps_asg hv.1 (pg_sub (pe_var hN hvis hd hcd) hi.1 (set_any hu) ha) hs hw h1, sem_setI s_put hi.2 hv.2⟩
def GetSound (K : PySem.W.Frag) (go : D → D → Option D) (t : V → V → Hp → VK → Prop) : Prop := ∀ G H x y d v u Q, Ex G H → Top K G H x v → Top K G H y u → go x y = some d → (∀ w, Rep K G d w → Q w H) → t v u H Q
def rGet (K : PySem.W.Frag) : V → V → Hp → VK → Prop := fun x y H Q => rIxL K x y H Q ∨ rIxD x y H Q
theorem get_any (hu : X.A.units + 1 < cLine) : PGet X (rGet X.K) := by
  intro pins s σ H o i ov iv Q I ro ri q
  rcases q with ⟨p, xs, k, v, rfl, rfl, hq, he, q⟩ | ⟨a, z, ex, g, q⟩
  · cases ro
    obtain ⟨t, rfl⟩ := ri
    obtain ⟨its, r, pl, hz⟩ := I.list hq
    obtain ⟨j, h1, h2, h3, h4, h5⟩ := atI_get he
    obtain ⟨w, ew, rw'⟩ := r.get h2
    have hl := r.length
    have hn := line63
    have ew' : its.toArray[j]? = some w := by simpa using ew
    by_cases h0 : 0 ≤ k
    · have hj : k.toNat = j := by
        rw [seqIndex_of h0 h5] at h1
        exact Option.some.inj h1
      exact wpAny_getItem_list pl.isList h0 (by omega) (by rw [hj]; exact ew') ⟨v, H, I, rw', q⟩
    · have hj : (k + (its.toArray.size : Int)).toNat = j := by
        rw [seqIndex_neg (by omega) h4] at h1
        rw [List.size_toArray, ← hl]
        exact Option.some.inj h1
      exact wpAny_getItem_list_neg pl.isList (by omega) (by rw [List.size_toArray] <;> omega) (by omega) (by rw [hj]; exact ew') ⟨v, H, I, rw', q⟩
  · subst ex
    cases ro
    exact d_getItem hu I g ri fun w' s3 I3 rw' => ⟨z, H, I3, rw', q⟩
def goIx (x y : D) : Option D := match x, y with
  | .lst ds, .int i => atI ds i
  | .dct kvs, k => (keyD k).bind (valD kvs)
  | _, _ => none
theorem s_get : GetSound K goIx (rGet K) := by
  intro G H x y d v u Q hG tx ty e q
  unfold goIx at e
  split at e
  · cases tx with
    | lst a r =>
    cases ty
    obtain ⟨w, e2, rv⟩ := r.atI e
    exact .inl ⟨_, _, _, _, rfl, rfl, a.sql, e2, q _ rv⟩
  · cases tx with
    | dct a r =>
    obtain ⟨k, ek, e⟩ := Option.bind_eq_some_iff.mp e
    obtain ⟨w, e2, rv⟩ := (r.val (k := k)).1 d e
    exact .inr ⟨_, w, rfl, .inl ⟨_, k, a, keyD_top ty ek, e2.symm⟩, q _ rv⟩
  · cases e
theorem OpR.pip {op : Operator} {r : R2} (h : OpR X (inplaceOp op) r) : PIp X op r := fun pins s σ H x y v u Q I rx ry q => h pins s σ H x y v u Q I rx ry q
def dAugI (j : Nat) (go : D → D → Option D) (op : D → D → Option R) (gs : D → D → D → Option D) (fi fv : Env → O R) : Env → O Fl := fun ρ => match ownAt ρ j with
  | some _ => (dE fi ρ).bind fun ρ ri => match ri, ownAt ρ j with
    | .fz y, some x => match go x y with
      | some d0 => (dN fv ρ).bind fun ρ rv => match useR ρ rv, ownAt ρ j with
        | some w, some x2 => match op d0 w with
          | some (.fz z) => match gs x2 y z with
            | some x' => .ok (ρ.set j (.own x')) .nx
            | none => .un
          | _ => .un
        | _, _ => .un
      | none => .un
    | _, _ => .un
  | none => .un
theorem sem_augI {j : Nat} {go : D → D → Option D} {op : D → D → Option R} {gs : D → D → D → Option D} {t1 : V → V → Hp → VK → Prop} {t2 : R2} {t3 : TSet} {ti tv : TE} {fi fv : Env → O R} (h1 : GetSound X.K go t1) (h2 : OpSound X.K op t2) (h3 : SetSound X.K gs t3)
    (hi : SemE X Wx ti fi) (hv : SemE X Wx tv fv) : SemS X Wx [] (tAugS (tVar j) ti tv t1 t2 t3) (dAugI j go op gs fi fv) := fun L G B H σ ρ D s p => by
  unfold dAugI at p
  cases e0 : ownAt ρ j with
  | none => simp only [e0] at p; exact p.elim
  | some x0 =>
    simp only [e0] at p
    obtain ⟨l, o0, hl, _⟩ := s.ow j x0 (ownAt_eq e0)
    refine ⟨_, hl, hi.froz L G B H σ ρ _ s ((PostS.bind p).imp fun ρ1 r1 G1 B1 H1 _ q1 v k1 => ?_)⟩
    have s1 := k1.state
    cases r1 with
    | fz y =>
      cases e1 : ownAt ρ1 j with
      | none => simp only [e1] at q1; exact q1.elim
      | some x =>
        simp only [e1] at q1
        obtain ⟨l', o, hl', _, k3, k4⟩ := s1.ow j x (ownAt_eq e1)
        rw [hl] at hl'
        cases hl'
        have ry := k1.fzI.1
        cases e2 : go x y with
        | none => simp only [e2] at q1; exact q1.elim
        | some d0 =>
          simp only [e2] at q1
          refine h1 G1 H1 x y d0 _ v _ s1.gh (k4.top k3) (ry.top s1.gh) e2 fun w0 rw0 => ?_
          -- the item is pending, too
          have kk : OkVs X.K L G1 H1 σ ρ1 B1 [.fz d0, .fz y] [w0, v] := .fz rw0 k1
          refine kk.thenE hv.n ((PostS.bind q1).imp fun ρ2 r2 G2 B2 H2 _ q2 w k2 => ?_)
          have s2 := k2.state
          have k2 : OkVs X.K L G2 H2 σ ρ2 B2 [.fz d0, .fz y, r2] [w0, v, w] := k2
          obtain ⟨rw0', k5⟩ := k2.fzI
          obtain ⟨ry', k6⟩ := k5.fzI
          cases eu : useR ρ2 r2 with
          | none => simp only [eu] at q2; exact q2.elim
          | some dw =>
            cases e3 : ownAt ρ2 j with
            | none => simp only [eu, e3] at q2; exact q2.elim
            | some x2 =>
              simp only [eu, e3] at q2
              cases e4 : op d0 dw with
              | none => simp only [e4] at q2; exact q2.elim
              | some rz =>
                cases rz with
                | fz z =>
                  simp only [e4] at q2
                  cases e5 : gs x2 y z with
                  | none => simp only [e5] at q2; exact q2.elim
                  | some x' =>
                    simp only [e5] at q2
                    obtain ⟨l', o2, hl', _, m3, m4⟩ := s2.ow j x2 (ownAt_eq e3)
                    rw [hl] at hl'
                    cases hl'
                    refine h2 G2 H2 d0 dw w0 w _ _ s2.gh (rw0'.top s2.gh) (k6.use eu) e4 fun vz rz => ?_
                    exact h3 G2 H2 l o2 x2 y z x' v vz _ s2.gh m4 m3 (ry'.top s2.gh) rz e5 fun o' r => q2 G2 B2 _ σ .refl .refl (s2.mut (ownAt_eq e3) hl r)
                | own _ => simp only [e4] at q2; exact q2.elim
                | bor _ => simp only [e4] at q2; exact q2.elim
                | tp _ => simp only [e4] at q2; exact q2.elim
    | own _ => exact q1.elim
    | bor _ => exact q1.elim
    | tp _ => exact q1.elim
theorem ds_augI {x : Str} {px tpos : Pos} {ix v : Expr} {ti tv : TE} {fi fv : Env → O R} {op : Operator} {g : D → D → Option R} {r : R2} (j : Nat) (hu : X.A.units + 1 < cLine) (ho : OpR X (inplaceOp op) r) (hg : OpSound X.K g r) (hi : DE X Wx ix ti fi) (hv : DE X Wx v tv fv) (hN : X.N[j]? = some x := by rfl)
    (hvis : Vis X.env.scope x := by first | exact Or.inl rfl | exact Or.inr (Or.inl rfl) | exact Or.inr (Or.inr rfl)) (hd : (x == ("__debug__" : Str)) = false := by decide) (hcd : (x == ("__classdict__" : Str)) = false := by decide)
    (ha : ∀ ov iv new, augStore ix ov iv new = (do holding [new, ov, iv] (setItem ov iv new); release [new, ov, iv] []; pure .next) := by intros; rfl) :
    DS X Wx [] (.AugAssign (.Subscript (.Name x px) ix tpos) op v pos) (tAugS (tVar j) ti tv (rGet X.K) r rSetA) (dAugI j goIx g gPut fi fv) :=
  ⟨ps_augS (pe_var hN hvis hd hcd) hi.1 (get_any hu) hv.1 (OpR.pip ho) (set_any hu) ha, sem_augI s_get hg s_put hi.2 hv.2⟩
def SemR (X : Cx) (Wx : WX) (t : L2.St → Hp → (Int → Int → Hp → Prop) → Prop) (fr : Env → O (Int × Int)) : Prop := ∀ L G B H σ ρ Q, OkS X.K L G B H σ ρ →
  Post X.K Wx L G B σ (fr ρ) (fun ρ' z G' B' H' => OkS X.K L G' B' H' σ ρ' → Q z.1 z.2 H') → t σ H Q
def DR (X : Cx) (Wx : WX) (e : Expr) (t : L2.St → Hp → (Int → Int → Hp → Prop) → Prop) (fr : Env → O (Int × Int)) : Prop := PRg X e t ∧ SemR X Wx t fr
def dRg1 (f : Env → O R) : Env → O (Int × Int) := fun ρ => (dN f ρ).bind fun ρ r => match useR ρ r with
  | some (.int n) => .ok ρ (0, n)
  | _ => .un
def dRg2 (f h : Env → O R) : Env → O (Int × Int) := fun ρ => (dN f ρ).bind fun ρ r1 => (dN h ρ).bind fun ρ r2 => match useR ρ r1, useR ρ r2 with
  | some (.int n), some (.int m) => .ok ρ (n, m)
  | _, _ => .un
theorem dr_1 (hg : Gl X "range") (hm : X.mg "range" = none) (ha : DE X Wx a ta f) (na : starEach [a] X.env = (false, eval a X.env) :: starEach [] X.env := by rfl) : DR X Wx (.Call (.Name "range" p) [a] [] pos) (tRg1 ta) (dRg1 f) :=
  ⟨prg_1 hg hm ha.1 na, fun L G B H σ ρ Q s p => ha.2.n L G B H σ ρ _ s ((Post.bind p).imp fun ρ2 r2 G2 B2 H1 _ q2 v k2 => by
    have s2 := k2.state
    cases u : useR ρ2 r2 with
    | none => simp only [u] at q2; exact q2.elim
    | some d =>
      simp only [u] at q2
      cases d <;> try exact q2.elim
      have t := k2.use u
      cases t
      exact ⟨_, rfl, Post.okD q2 H1 s2⟩)⟩
theorem dr_2 (hg : Gl X "range") (hm : X.mg "range" = none) (ha : DE X Wx a ta f) (hb : DE X Wx b tb h) (na : starEach [a, b] X.env = (false, eval a X.env) :: starEach [b] X.env := by rfl)
    (nb : starEach [b] X.env = (false, eval b X.env) :: starEach [] X.env := by rfl) (hp : (backTo pos (starEach [b] X.env)).any (·.1) = false := by rfl) : DR X Wx (.Call (.Name "range" p) [a, b] [] pos) (tRg2 ta tb) (dRg2 f h) :=
  ⟨prg_2 hg hm ha.1 hb.1 na nb hp, fun L G B H σ ρ Q s p => ha.2.n L G B H σ ρ _ s ((Post.bind p).imp fun ρ1 r1 G1 B1 H1 _ q1 v k1 => k1.thenE hb.2.n ((Post.bind q1).imp fun ρ2 r2 G2 B2 H2 _ q2 w k2 => by
    have s2 := k2.state
    cases u1 : useR ρ2 r1 with
    | none => simp only [u1] at q2; exact q2.elim
    | some x =>
      cases u2 : useR ρ2 r2 with
      | none => simp only [u1, u2] at q2; cases x <;> exact q2.elim
      | some y =>
        simp only [u1, u2] at q2
        cases x <;> try exact q2.elim
        cases y <;> try exact q2.elim
        have t := k2.use u1
        have t' := k2.tail.use u2
        cases t
        cases t'
        exact ⟨_, _, rfl, rfl, Post.okD q2 H2 s2⟩))⟩
def rgD (i j : Int) : List D := (List.range (j - i).toNat).map fun k => .int (i + (k : Nat))
theorem reps_rg {G : Hp} (i j : Int) : Reps K G (rgD i j) (rgV i j) := by
  unfold rgD rgV
  generalize List.range (j - i).toNat = l
  induction l with
  | nil => exact .nil
  | cons k l ih => exact .cons .int ih
def rgOk (i j : Int) : Bool := decide (-(2 ^ 62) ≤ i ∧ i < 2 ^ 62 ∧ -(2 ^ 62) ≤ j ∧ j < 2 ^ 62 ∧ j - i ≤ 1000000)
theorem rgOk_ok {i j : Int} (h : rgOk i j = true) : RgOk i j := by
  have h := of_decide_eq_true h
  exact ⟨h.1, h.2.1, h.2.2.1, h.2.2.2.1, by omega⟩
def dLstRg (fr : Env → O (Int × Int)) : Env → O R := fun ρ => (fr ρ).bind fun ρ z => if rgOk z.1 z.2 = true then .ok ρ (.own (.lst (rgD z.1 z.2))) else .un
theorem de_listRg {te : L2.St → Hp → (Int → Int → Hp → Prop) → Prop} {fr : Env → O (Int × Int)} (hc : X.calm = true) (hg : Gl X "list") (hm : X.mg "list" = none) (he : DR X Wx e te fr) (na : starEach [e] X.env = (false, eval e X.env) :: starEach [] X.env := by rfl) :
    DE X Wx (.Call (.Name "list" p) [e] [] pos) (tLstRg te) (dLstRg fr) :=
  ⟨pe_listRg hc hg hm he.1 na, fun L G B H σ ρ Q s p => he.2 L G B H σ ρ _ s ((Post.bind p).imp fun ρ1 z G1 B1 H1 _ q s1 => by
    by_cases hz : rgOk z.1 z.2 = true
    · rw [if_pos hz] at q
      exact ⟨rgOk_ok hz, fun a ha => Post.okD q _ _ (s1.own ha (.lst (reps_rg _ _)))⟩
    · rw [if_neg hz] at q; exact q.elim)⟩
def tyN : D → Option String
  | .non => some "NoneType"
  | .bl _ => some "bool"
  | .int _ => some "int"
  | .str _ => some "str"
  | .lst _ => some "list"
  | .tup _ => some "tuple"
  | .dct _ => some "dict"
  | _ => none
theorem tyX_of {G H : Hp} {d : D} {v : V} {n : String} (t : Top K G H d v) (e : tyN d = some n) : TyX K H v (.type n) := by
  cases t <;> simp only [tyN, Option.some.injEq, reduceCtorEq] at e <;> first | (subst e) | skip
  · exact .base .non
  · exact .base (.bl _)
  · exact .base (.int _)
  · exact .base (.str _)
  · rename_i a r
    rcases a with (a | ⟨o, a⟩) | ⟨its, n, a, _, _⟩
    · exact .base (.lst a)
    · exact .base (.frz a)
    · exact .kList a rfl
  · rename_i a r
    rcases a with (a | ⟨o, a⟩) | ⟨o, its, n, a, hc, _⟩
    · exact .base (.tup a)
    · exact .fTuple a
    · exact .kTuple a hc
  · rename_i a r
    rcases a with a | ⟨o, a⟩
    · exact .base (.dK a)
    · exact .fDict a
def gIsi : List D → Option R
  | [x, .ty c] => (tyN x).bind fun t => (kitB t c).map fun b => .fz (.bl b)
  | _ => none
theorem s_isi : CallSound K gIsi (rIsi K) := by
  intro G H ds vs z Q hG t e q
  unfold gIsi at e
  split at e
  · obtain ⟨v, v', rfl, t1, t2⟩ := t.two_inv
    obtain ⟨n, en, e⟩ := Option.bind_eq_some_iff.mp e
    obtain ⟨b, eb, rfl⟩ := Option.map_eq_some_iff.mp e
    cases t2
    exact ⟨_, _, _, _, b, rfl, .ty _, tyX_of t1 en, kit_ty eb, q _ .bl⟩
  · cases e
mutual
/-- what is shown: the empty dict, too -/
def pyR : D → Option PyData
  | .non => some .none
  | .bl b => some (.bool b)
  | .int i => some (.int i)
  | .str x => some (.str x)
  | .lst ds => (pysR ds).map .list
  | .tup ds => (pysR ds).map .tuple
  | .dct [] => some (.dict [])
  | _ => none
def pysR : List D → Option (List PyData)
  | [] => some []
  | d :: ds => match pyR d, pysR ds with
    | some p, some ps => some (p :: ps)
    | _, _ => none
end
def gBits : D → Option R
  | .int i => some (.fz (.int (ibits i : Nat)))
  | _ => none
theorem s_bits : UnSound K gBits (fun x H Q => ∃ i, x = .int i ∧ Q (.int (Builtin.Int.intBits i : Nat)) H) := by
  intro G H x v z Q _ t e q
  unfold gBits at e
  split at e
  · cases e
    cases t
    exact ⟨_, rfl, q _ .int⟩
  · cases e
theorem de_bits {o : Expr} {apos pos : Pos} (ho : DE X Wx o ta f) (hbase : attributeBase o "bit_length" X.env (eval o X.env) = eval o X.env := by rfl) (hline : (apos.endLine == pos.line) = true := by rfl) :
    DE X Wx (.Call (.Attribute o "bit_length" apos) [] [] pos) (tUn (fun x H Q => ∃ i, x = .int i ∧ Q (.int (Builtin.Int.intBits i : Nat)) H) ta) (dUn gBits f) :=
  ⟨pe_bits ho.1 hbase hline, one s_bits ho.2⟩
theorem de_cb {id : String} {x : Str} {g : List D → Option R} {r : List V → Hp → VK → Prop} (hc : CallR X (.builtin id) r) (hs : CallSound X.K g r) (hg : Gl X x) (hm : X.mg x = none) (hv : bootBuiltins x = some (.builtin id)) (ha : DA X Wx (e :: es) tr fs) (hn : x ≠ "__name__" := by decide) (hdb : (x == ("__debug__" : Str)) = false := by decide)
    (he : starEach (e :: es) X.env = (false, eval e X.env) :: starEach es X.env := by rfl) (hpl : (backTo pos (starEach es X.env)).any (·.1) = false := by rfl) : DE X Wx (.Call (.Name x p) (e :: es) [] pos) (tCB r tr) (dCB g fs) :=
  ⟨pe_callB hc hg hm hv ha.1 hn hdb he hpl, sem_cb hs ha.2⟩
theorem de_ct {T : String} {x : Str} {g : List D → Option R} {r : List V → Hp → VK → Prop} (hc : CallR X (.type T) r) (hs : CallSound X.K g r) (hg : Gl X x) (hm : X.mg x = none) (hv : bootBuiltins x = some (.type T)) (ha : DA X Wx (e :: es) tr fs) (hn : x ≠ "__name__" := by decide) (hdb : (x == ("__debug__" : Str)) = false := by decide)
    (he : starEach (e :: es) X.env = (false, eval e X.env) :: starEach es X.env := by rfl) (hpl : (backTo pos (starEach es X.env)).any (·.1) = false := by rfl) : DE X Wx (.Call (.Name x p) (e :: es) [] pos) (tCB r tr) (dCB g fs) :=
  ⟨pe_callTy hc hg hm hv ha.1 hn hdb he hpl, sem_cb hs ha.2⟩
theorem de_glob {x : Str} {v : V} {u : Value} {d : D} (hg : Gl X x) (hm : X.mg x = some u) (r : RelV v u) (rd : ∀ H, Rep X.K H d v) (hd : (x == ("__debug__" : Str)) = false := by decide) : DE X Wx (.Name x pos) (tC v) (dC d) := de_c (pe_glob hg hm r hd) rd
theorem de_ty {x : Str} {n : String} (hg : Gl X x) (hm : X.mg x = none) (hv : bootBuiltins x = some (.type n)) (hn : x ≠ "__name__" := by decide) (hd : (x == ("__debug__" : Str)) = false := by decide) : DE X Wx (.Name x pos) (tC (.ty n)) (dC (.ty n)) := de_c (pe_bltn hg hm hv rfl hn hd) fun _ => .ty
def dDnew : Env → O R := fun ρ => .ok ρ (.own (.dct []))
theorem de_dnew : DE X Wx (.Dict [] [] pos) tDNewK dDnew := ⟨pe_dnewK, fun L G B H σ ρ Q s p a ha => Post.okD p _ _ (s.own ha (.dct .nil))⟩
end
end DN
set_option maxHeartbeats 2000000
namespace DN
open PySem PySem.Spec PyProof.Rows L2
open Evl (Ex)
section
variable {P : Program} {w : World} {K : PySem.W.Frag} {mg : Str → Option Value} {base : Heap} {x qual : Str} {params : Arguments} {stmts : List Stmt} {sc : Scope} {dvs : List V} {kws : List (Str × V)} {f : Addr} {fd : FuncData}
/-- a def's promise by its body -/
theorem FunD.okG {N ps : List Str} {k : Nat} {sp : Sp} (F : FunD K x qual params stmts sc dvs kws f fd) (S : FnScope N ps sc) (len : ∀ vs H Q E, sp vs H Q E → vs.length = ps.length)
    (body : ∀ (cd : Value) (A : Around) (out : List PySem.Env) (s0 : Shared) (H0 : Hp) (vs : List V) (Q : VK) (E : XK), Room k (A.deeper (envOfC qual sc s0.heap.objs.size f cd)) → A.guards = some [] → sp vs H0 Q E →
      ∃ t, PSs (cxOf (L2.CX P w) P w K mg base N qual sc f cd A out s0 H0 E) stmts t ∧ t { nx := fun _ H' => Q .non H', rt := Q } (start N vs) H0) : FnG P w K mg base (k + 1) f fd ps sp := by
  obtain ⟨o1, o2, v0, v1, v2, v3, an, cd, ct, sl, efd, lk, hcd, _, _⟩ := F.ex
  subst efd
  refine ⟨len, fun A out s0 H0 ar us vs Q E room gd e0 bt rv hs => ?_⟩
  have kin : K.In s0.heap := e0.mod.kin.keeps fun a ob q => (e0.bs a ob q).1
  have names : ∀ z ∈ ps.zip us, sc.names.lookup z.1 = some .local ∨ (sc.names.lookup z.1 = some .cell ∧ ((cellsFrom (s0.heap.objs.size + 1) sc.names []).lookup z.1).isSome = true) := fun ⟨nm, vl⟩ hz =>
    (S.par nm (List.of_mem_zip hz).1).imp id fun q => ⟨q, PySem.W.cellsFrom_some _ _ _ (.inl q)⟩
  refine codeAny_call_function room.depth (kin _ _ lk) rfl S.co S.gen rfl (PySem.W.codeRec_of kin hcd) (bt _ _ _ _ (wpAny_newFunctionEnv_cells S.kind names fun env he s1 x => ?_))
  subst he
  refine ⟨(e0.mod.nolimit.keeps fun a ob q => (e0.bs a ob q).1).keeps x.toInCall.keep, codeAny_func ?_⟩
  obtain ⟨t, pt, q⟩ := body cd A out s0 H0 vs Q E (room.deeper _) gd hs
  have I := inv_start (CX := L2.CX P w) (E := E) (N := N) S room.hd e0 (len _ _ _ _ hs) rv x
  refine wpAny_mono (pt.run [] s1 (start N vs) H0 _ I q) (fun fl s2 h2 => ?_) fun e s2 h2 => h2
  cases fl with
  | ret u =>
    obtain ⟨v, σ', H', J, rv', q'⟩ := h2
    exact ⟨v, H', J.os, J.bare, J.base, J.hok, rv', q'⟩
  | next =>
    obtain ⟨σ', H', J, q'⟩ := h2
    exact ⟨V.non, H', J.os, J.bare, J.base, J.hok, rfl, q'⟩
  | brk =>
    obtain ⟨_, _, _, q'⟩ := h2
    exact q'.elim
  | cont =>
    obtain ⟨_, _, _, q'⟩ := h2
    exact q'.elim
/-- what a body's denotation promises -/
theorem den_post {X : Cx} {N : List Str} {ms : List Md} {body : Env → O Fl} {Sb : List Nat} {t : TS} {vs : List V} {H0 : Hp} {Q : VK} {E : XK} (hN : ms.length ≤ N.length) (hio : ∀ i, ms[i]? = some .io → i ∉ Sb)
    (sem : SemS X (fun c d _ H => E c d H) Sb t body) (h : spM X.K ms (denF ms N.length body) vs H0 Q E) : t { nx := fun _ H' => Q .non H', rt := Q } (start N vs) H0 := by
  obtain ⟨G, B, ds, a, post⟩ := h
  obtain ⟨L, s⟩ := a.start (N := N) (by rw [a.lv]; exact hN)
  refine sem L G B H0 (L2.start N vs) _ _ s ?_
  have hw : ∀ {σ' : L2.St}, Stay Sb (L2.start N vs) σ' → ∀ (i : Nat) v, ms[i]? = some .io → vs[i]? = some v → σ'[0 + i]? = some (some v) := fun st i v e1 e2 => by
    rw [Nat.zero_add]; exact st.get (hio i e1) e2
  unfold denF at post
  cases eb : body (env0 ms N.length ds) with
  | un => rw [eb] at post; exact post.elim
  | er ρ e =>
    simp only [eb] at post
    intro G' B' H' σ' c d gr sy s' oe
    cases eo : outsOf ρ ms 0 with
    | none => simp only [eo] at post
    | some outs =>
      simp only [eo] at post
      obtain ⟨ρ', k'⟩ := outs_take (OkVs.nil s') (hw sy) a.lv eo
      refine post G' B' H' c d gr ?_ oe
      have := k'.forget (fun r hr => by
        rw [List.append_nil] at hr
        obtain ⟨d, _, rfl⟩ := List.mem_map.mp hr
        rfl)
      rw [List.append_nil, List.append_nil] at this
      exact this
  | ok ρ fl =>
    simp only [eb] at post
    cases fl with
    | bk => exact post.elim
    | ct => exact post.elim
    | nx =>
      intro G' B' H' σ' gr sy s'
      cases eo : outsOf ρ ms 0 with
      | none => simp only [eo] at post
      | some outs =>
        simp only [eo] at post
        obtain ⟨ρ', k'⟩ := outs_take (OkVs.fz (d := .non) (v := .non) .non (OkVs.nil s')) (hw sy) a.lv eo
        refine post G' B' H' _ gr (k'.forget fun r hr => ?_)
        rcases List.mem_append.mp hr with hr | hr
        · obtain ⟨d, _, rfl⟩ := List.mem_map.mp hr
          rfl
        · rw [List.mem_singleton.mp hr]; rfl
    | rt r =>
      intro G' B' H' σ' v gr sy kv
      simp only at post
      cases ec : closeR ρ r with
      | none => simp only [ec] at post
      | some y =>
        obtain ⟨ρ1, r1⟩ := y
        simp only [ec] at post
        cases eo : outsOf ρ1 ms 0 with
        | none => simp only [eo] at post
        | some outs =>
          simp only [eo] at post
          obtain ⟨G2, B2, g2, k2, n1, n2⟩ := closeR_ok kv ec
          obtain ⟨ρ', k'⟩ := outs_take k2 (hw sy) a.lv eo
          refine post G2 B2 H' v (gr.trans g2) (k'.forget fun q hq => ?_)
          rcases List.mem_append.mp hq with hq | hq
          · obtain ⟨d, _, rfl⟩ := List.mem_map.mp hq
            rfl
          · rw [List.mem_singleton.mp hq]
            cases r1 with
            | fz => rfl
            | own => rfl
            | bor i => exact absurd rfl (n2 i)
            | tp qs => exact List.all_eq_true.mpr (n1 qs rfl)
/-- the context of a def's body -/
abbrev cxD (P : Program) (w : World) (K : PySem.W.Frag) (mg : Str → Option Value) (base : Heap) (N : List Str) (qual : Str) (sc : Scope) (f : Addr) (cd : Value) (A : Around) (out : List PySem.Env) (s0 : Shared) (H0 : Hp) (E : XK) : Cx :=
  cxOf (L2.CX P w) P w K mg base N qual sc f cd A out s0 H0 E
theorem fnd_den {N ps : List Str} {k : Nat} {ms : List Md} {body : Env → O Fl} {Sb : List Nat} (F : FunD K x qual params stmts sc dvs kws f fd) (S : FnScope N ps sc)
    (hl : ms.length = ps.length) (hio : ∀ i, ms[i]? = some .io → i ∉ Sb)
    (hbody : ∀ (cd : Value) (A : Around) (out : List PySem.Env) (s0 : Shared) (H0 : Hp) (E : XK), Room k (A.deeper (envOfC qual sc s0.heap.objs.size f cd)) → A.guards = some [] →
      Takes (cxD P w K mg base N qual sc f cd A out s0 H0 E) (fun c d _ H => E c d H) →
      ∃ t, DSs (cxD P w K mg base N qual sc f cd A out s0 H0 E) (fun c d _ H => E c d H) Sb stmts t body) :
    FnG P w K mg base (k + 1) f fd ps (spM K ms (denF ms N.length body)) := by
  refine FunD.okG F S (fun vs H Q E h => ?_) (fun cd A out s0 H0 vs Q E room gd h => ?_)
  · obtain ⟨G, B, ds, a, _⟩ := h
    rw [a.lv, hl]
  · obtain ⟨t, pt, sem⟩ := hbody cd A out s0 H0 E room gd (takes_of rfl rfl rfl rfl)
    exact ⟨t, pt, den_post (X := cxD P w K mg base N qual sc f cd A out s0 H0 E) (by rw [hl, ← S.pre, List.length_take]; exact Nat.min_le_right _ _) hio sem h⟩
end
def swapAt {α : Type} : Nat → List α → List α
  | 0, a :: b :: r => b :: a :: r
  | k + 1, a :: r => a :: swapAt k r
  | _, r => r
def swaps {α : Type} (ks : List Nat) (xs : List α) : List α := ks.foldl (fun xs k => swapAt k xs) xs
structure KB0 (K : PySem.W.Frag) (fd : FuncData) (ps ks : List Str) (sw : List Nat) : Prop where
  to : ∀ (s : Shared) (ws : List Value), K.In s.heap → ws.length = ks.length → BindsTo s fd ⟨[], ks.zip ws⟩ (ps.zip (swaps sw ws))
theorem KB0.of {K : PySem.W.Frag} {x qual : Str} {params : Arguments} {stmts : List Stmt} {sc : Scope} {kws : List (Str × V)} {f : Addr} {fd : FuncData} {ps ks : List Str} {sw : List Nat} (F : FunD K x qual params stmts sc [] kws f fd)
    (h : ∀ (kV doc pm : Value) (an : Option Addr) (cdv ct : Value) (ws : List Value), ws.length = ks.length → bindArgs (PySem.W.fnOf x qual params stmts sc .none kV doc pm an cdv ct) ⟨[], ks.zip ws⟩ = pure (ps.zip (swaps sw ws))) : KB0 K fd ps ks sw := by
  obtain ⟨oc, od, dV, kV, doc, pm, an, cdv, ct, osl, rfl, lk, hcd, hD, hK⟩ := F.ex
  rcases hD with ⟨_, rfl⟩ | ⟨e, _⟩
  · exact ⟨fun s ws _ hl => .of_eq (h kV doc pm an cdv ct ws hl)⟩
  · exact absurd rfl e
def dCallS (n : Nat) (sw : List Nat) (ms : List Md) (m : List D → FO) (fs : Env → O (List R)) : Env → O R := fun ρ => (fs ρ).bind fun ρ rs => if (decide (rs.length = n) && rs.all fun r => !isTp r) = true then callM ms m ρ (swaps sw rs) else .un
def dPairs : List ((Env → O R) × (Env → O R)) → Env → O (List (D × D))
  | [] => fun ρ => .ok ρ []
  | (fk, fv) :: r => fun ρ => (dE fk ρ).bind fun ρ rk => match rk with
    | .fz k => (dE fv ρ).bind fun ρ rv => match rv with
      | .fz v => (dPairs r ρ).bind fun ρ ps => .ok ρ ((k, v) :: ps)
      | _ => .un
    | _ => .un
def keysOf : List (D × D) → Option (List (Key × D))
  | [] => some []
  | (k, d) :: r => match keyD k, keysOf r with
    | some k, some r => some ((k, d) :: r)
    | _, _ => none
def mergeD (ps : List (Key × D)) : List (Key × D) := ps.foldl (fun acc kv => putD acc kv.1 kv.2) []
def dDisp (ps : List ((Env → O R) × (Env → O R))) : Env → O R := fun ρ => (dPairs ps ρ).bind fun ρ qs => match keysOf qs with
  | some kvs => if kvs.length ≤ 15 then .ok ρ (.own (.dct (mergeD kvs))) else .un
  | none => .un
section
variable {X : Cx} {Wx : WX} {pos : Pos}
inductive DPP (X : Cx) (Wx : WX) (pos : Pos) : List (Option Expr) → List Expr → List (TE × TE) → List ((Env → O R) × (Env → O R)) → Prop where
  | nil : DPP X Wx pos [] [] [] []
  | cons {k v ks vs tk tv trs fk fv fr} : DE X Wx k tk fk → DE X Wx v tv fv → DPP X Wx pos ks vs trs fr → DPP X Wx pos (some k :: ks) (v :: vs) ((tk, tv) :: trs) ((fk, fv) :: fr)
theorem OkVs.own_fz {K : PySem.W.Frag} {L : Lent} {G B H : Hp} {σ : L2.St} {ρ : Env} {d d' : D} {u v : V} (k : OkVs K L G H σ ρ B [.own d, .fz d'] [u, v]) : Rep K G d' v ∧ OkVs K L G H σ ρ B [.own d] [u] := by
  cases k with
  | own g l b r k =>
    cases k with
    | fz a k => exact ⟨a, .own g l b r k⟩
theorem DPP.pps {ks : List (Option Expr)} {vs : List Expr} {trs : List (TE × TE)} {fr : List ((Env → O R) × (Env → O R))} (h : DPP X Wx pos ks vs trs fr) : PPs X pos ks vs trs := by
  induction h with
  | nil => exact pps_nil
  | cons a b _ ih => exact pps_cons a.1 b.1 ih
/-- an object of one's own is pending while the pairs are made -/
theorem DPP.sem {ks : List (Option Expr)} {vs : List Expr} {trs : List (TE × TE)} {fr : List ((Env → O R) × (Env → O R))} (h : DPP X Wx pos ks vs trs fr) : ∀ {L : Lent} {G B H : Hp} {σ : L2.St} {ρ : Env} {d : D} {u : V} {Q : List (V × V) → Hp → Prop}, OkVs X.K L G H σ ρ B [.own d] [u] →
    Post X.K Wx L G B σ (dPairs fr ρ) (fun ρ' ps G' B' H' => ∀ qs : List (V × V), OkVs X.K L G' H' σ ρ' B' [.own d] [u] → Paired (fun p q => Rep X.K G' p.1 q.1 ∧ Rep X.K G' p.2 q.2) ps qs → Q qs H') → tPairs trs σ H Q := by
  induction h with
  | nil => intro L G B H σ ρ d u Q k p; exact Post.okD p H [] k .nil
  | @cons ke ve ks vs tk tv trs fk fv fr a b _ ih =>
    intro L G B H σ ρ d u Q k p
    refine k.thenE a.2.froz ((Post.bind p).imp fun ρ1 r1 G1 B1 H1 g1 q1 v1 k1 => ?_)
    have k1 : OkVs X.K L G1 H1 σ ρ1 B1 [.own d, r1] [u, v1] := k1
    cases r1 with
    | own _ => exact q1.elim
    | bor _ => exact q1.elim
    | tp _ => exact q1.elim
    | fz kd =>
      obtain ⟨ra, k1⟩ := k1.own_fz
      refine k1.thenE b.2.froz ((Post.bind q1).imp fun ρ2 r2 G2 B2 H2 g2 q2 v2 k2 => ?_)
      have k2 : OkVs X.K L G2 H2 σ ρ2 B2 [.own d, r2] [u, v2] := k2
      cases r2 with
      | own _ => exact q2.elim
      | bor _ => exact q2.elim
      | tp _ => exact q2.elim
      | fz vd =>
        obtain ⟨rb, k2⟩ := k2.own_fz
        exact ih k2 ((Post.bind q2).imp fun ρ3 ps G3 B3 H3 g3 q3 qs k3 rel => Post.okD q3 H3 _ k3 (.cons ⟨(ra.mono (g2.gg k1.base.1)).mono (g3.gg k2.base.1), rb.mono (g3.gg k2.base.1)⟩ rel))
theorem keysOf_rel {H : Hp} : ∀ {ps : List (D × D)} {qs : List (V × V)} {kvs : List (Key × D)}, Paired (fun p q => Rep X.K H p.1 q.1 ∧ Rep X.K H p.2 q.2) ps qs → keysOf ps = some kvs → ∃ kws : List (Key × V), qs = kws.map (fun kv => (kV kv.1, kv.2)) ∧ RepK X.K H kvs kws
  | [], _, _, h, e => by cases h; cases e; exact ⟨[], rfl, .nil⟩
  | (k, d) :: ps, _, kvs, h, e => by
    cases h with
    | @cons _ q _ qs r t =>
      unfold keysOf at e
      split at e
      · rename_i k0 r0 e1 e2
        cases e
        obtain ⟨kws, e3, rk⟩ := keysOf_rel t e2
        have ek := keyD_top (r.1.top (Ex.refl _)) e1
        refine ⟨(k0, q.2) :: kws, ?_, .cons r.2 rk⟩
        rw [List.map_cons, ← e3, ← ek]
      · cases e
theorem mergeD_rel {H : Hp} : ∀ {kvs acc : List (Key × D)} {kws acw : List (Key × V)}, RepK X.K H kvs kws → RepK X.K H acc acw → RepK X.K H (kvs.foldl (fun acc kv => putD acc kv.1 kv.2) acc) (mergeK acw kws)
  | [], _, _, _, h, a => by cases h; exact a
  | (k, d) :: kvs, acc, _, acw, h, a => by
    cases h with
    | @cons _ _ v _ kws r t =>
      show RepK X.K H (kvs.foldl (fun acc kv => putD acc kv.1 kv.2) (putD acc k d)) (mergeK (putK acw k v) kws)
      exact mergeD_rel t (a.put r)
theorem de_disp {ks : List (Option Expr)} {vs : List Expr} {trs : List (TE × TE)} {fr : List ((Env → O R) × (Env → O R))} (h : DPP X Wx pos ks vs trs fr) (hall : ks.all (·.isSome) = true := by rfl) (hl : ks.length = vs.length := by rfl) (h0 : ks ≠ [] := by simp) (h15 : ks.length ≤ 15 := by decide) :
    DE X Wx (.Dict ks vs pos) (tDisp trs) (dDisp fr) :=
  ⟨pe_disp h.pps hall hl h0 h15, fun L G B H σ ρ Q s p a ha => by
    refine h.sem (s.own ha (.dct .nil)) ((Post.bind p).imp fun ρ1 ps G1 B1 H1 g1 q qs k rel => ?_)
    cases ek : keysOf ps with
    | none => simp only [ek] at q; exact q.elim
    | some kvs =>
      simp only [ek] at q
      by_cases hz : kvs.length ≤ 15
      · rw [if_pos hz] at q
        obtain ⟨kws, e1, rk⟩ := keysOf_rel (X := X) rel ek
        cases k with
        | own g l b r k =>
          cases r with
          | dct r =>
          cases r
          have hH := k.base.2.2 a _ upd_same
          have b2 : OkVs X.K L G1 (upd H1 a (.dK (mergeK [] kws))) σ ρ1 B1 [.own (.dct (mergeD kvs))] [.ref a] := by
            refine .own g l b (.dct (mergeD_rel (X := X) rk .nil)) (.nil ?_)
            cases k with
            | nil s1 =>
              have := s1.rewrite (o' := .dK (mergeK [] kws)) upd_same g l
              have eu : upd (upd B1 a (.dK [])) a (.dK (mergeK [] kws)) = upd B1 a (.dK (mergeK [] kws)) := by
                funext y
                by_cases hy : y = a
                · subst hy; rw [upd_same, upd_same]
                · rw [upd_ne hy, upd_ne hy, upd_ne hy]
              rw [eu] at this
              exact this
          exact ⟨hH, kws, e1, by rw [rk.length]; exact hz, Post.okD q _ _ b2⟩
      · rw [if_neg hz] at q; exact q.elim⟩
end
def OnlyS (a : Addr) (H : Hp) : Prop := ∀ b, H b = none ∨ b = a ∧ ∃ o xs, H b = some (.frz o (.lst xs))
theorem script_heap {P : Program} {w : World} {K : PySem.W.Frag} {s : Shared} {a : Addr} {vs : List Value} {ns : List Int} (KX : K.In s.heap) (ha : s.heap.get? a = some { cls := .type "list", data := .seq vs.toArray }) (rv : Vals (ns.map V.int) vs) (hl : ns.length ≤ sizeLine) :
    ∃ H : Hp, OnlyS a H ∧ SqX K H a (ns.map V.int) ∧ HOk P w H s.heap ∧ (H a ≠ none → K.lookup a = none) := by
  have hlen : vs.length = ns.length := by have := rv.length; rw [List.length_map] at this; exact this.symm
  cases hk : K.lookup a with
  | some o =>
    have q := KX a o hk
    rw [ha] at q
    cases q
    exact ⟨fun _ => none, fun _ => .inl rfl, .inr ⟨vs, _, hk, by rw [hlen]; exact hl, rv⟩, (fun b u z => nomatch (show (none : Option HO) = some u from z)), fun z => (z rfl).elim⟩
  | none =>
    refine ⟨upd (fun _ => none) a (.frz { cls := .type "list", data := .seq vs.toArray } (.lst (ns.map V.int))), fun b => ?_, .inl (.inr ⟨_, upd_same⟩), fun b u z => ?_, fun _ => rfl⟩
    · by_cases hb : b = a
      · exact .inr ⟨hb, by subst hb; exact ⟨_, _, upd_same⟩⟩
      · exact .inl (upd_ne hb)
    · by_cases hb : b = a
      · subst hb
        rw [upd_same] at z
        cases z
        exact ⟨ha, ⟨by rw [List.length_map]; exact hl, vs, _, rv, ha⟩⟩
      · rw [upd_ne hb] at z
        cases z
theorem ends_of {P : Program} {w : World} {K : PySem.W.Frag} {mg mb : Str → Option Value} {k : Nat} {fa a : Addr} {fd : FuncData} {x : Str} {sp : Sp} {s : Shared} {vs : List Value} {ns : List Int}
    (KX : K.In s.heap) (hns : s.heap.Ns mainGlobals mg) (hb : s.heap.Ns builtinsNs mb) (hbb : ∀ x : Str, x ≠ "__name__" → mb x = bootBuiltins x) (hlim : s.heap.NoLimit) (hg : s.gens = #[])
    (ha : s.heap.get? a = some { cls := .type "list", data := .seq vs.toArray }) (hi : IntsAre vs ns) (hl : ns.length ≤ sizeLine) (hr : Room k callerA)
    (F : ∀ base : Heap, FnG P w K mg base k fa fd [x] sp) (hbind : ∀ (s : Shared) (u : Value), BindsTo s fd ⟨[u], []⟩ [(x, u)])
    (hsp : ∀ H : Hp, SqX K H a (ns.map V.int) → sp [.ref a] H (fun v _ => v = .bl true) fun _ _ _ => False) :
    codeAny (model P w) callerA (.call (.ref fa) ⟨[.ref a], []⟩) (fun r s' => r = .ok (.ret (.bool true)) ∧ OldK s.heap s'.heap ∧ s'.os = s.os ∧ AllBare s'.gens) s := by
  obtain ⟨H, only, sq, hok, hK⟩ := script_heap (P := P) (w := w) KX ha (vals_ints hi) hl
  have keeps : ∀ {b : Addr} {o : Obj}, s.heap.get? b = some o → H b = none → (hidT s.heap H).get? b = some o := fun e n => hidT_get e n
  have nodict : ∀ {b : Addr} {o : Obj} {es : Array DictEntry} {ep : Nat}, s.heap.get? b = some o → o.data = .dict es ep → H b = none := fun {b o es ep} e d => by
    rcases only b with q | ⟨rfl, _⟩
    · exact q
    · rw [ha] at e
      cases e
      exact nomatch (show Data.seq vs.toArray _ = Data.dict es ep from d)
  have nss : ∀ {b : Addr} {m : Str → Option Value}, s.heap.Ns b m → (hidT s.heap H).Ns b m := fun {b m} z => by
    obtain ⟨o, es, ep, e, d, r⟩ := z
    exact ⟨o, es, ep, keeps e (nodict e d), d, r⟩
  have kb : K.In (hidT s.heap H) := fun b o e => keeps (KX b o e) (by
    rcases only b with q | ⟨rfl, o2, xs, q⟩
    · exact q
    · rw [hK (by rw [q]; simp)] at e
      cases e)
  obtain ⟨mc, l1, l2⟩ := hlim
  have en : Env0 P w K mg (hidT s.heap H) callerA [] s H := { frames := rfl, mod := ⟨kb, nss hns, ⟨mb, nss hb, hbb⟩, ⟨mc, nss l1, l2⟩⟩, bs := fun b o e => of_hidT e, bsz := Nat.le_of_eq (hidT_size _ _), funs := trivial, frf := fun b hb => (nomatch hb), hok := hok, bare := .of_eq hg }
  refine codeAny_mono ((F _).run callerA [] s H ⟨[.ref a], []⟩ [.ref a] [.ref a] _ _ hr rfl en (hbind s (.ref a)) (.cons rfl .nil) (hsp H sq)) fun r s' h => ?_
  cases r with
  | error e =>
    obtain ⟨_, _, _, _, _, _, _, _, _, _, _, _, z⟩ := h
    exact z.elim
  | ok fl =>
    cases fl with
    | next => exact h.elim
    | brk => exact h.elim
    | cont => exact h.elim
    | ret u =>
      obtain ⟨v, H', os, bare, un, hok', r', q⟩ := h
      have q : v = .bl true := q
      subst q
      have eu : u = Value.bool true := r'
      subst eu
      refine ⟨rfl, OldK.of_keep fun b o e => ?_, os, bare⟩
      rcases only b with z | ⟨_, ob, xs, z⟩
      · exact un.keep b o e z (fun y => nomatch y) (fun y => nomatch y)
      · obtain ⟨e1, _⟩ := hok b _ z
        obtain ⟨e2, _⟩ := hok' b _ (un.frzs b ob _ z)
        rw [e] at e1
        cases e1
        exact e2
/-- a law: its def's denotation says True of every script -/
theorem walk_den {l : PySem.W.OpenLaw} {n k : Nat} {q : Program} {loose : List Str} {XP : (Str → Option Value) → Heap → Prop} {YP : World → Heap → Prop} {d : DefRec} {x : Str} {m : List D → FO}
    (hn : l.most = some n) (hn2 : n ≤ sizeLine) (hdf : d.params.defaults = []) (hr : Room k callerA)
    (F : ∀ (w : World) (mg : Str → Option Value) (fa : Addr) (h : Heap), YP w h → h.Ns mainGlobals mg → mg d.name = some (.ref fa) →
      ∃ (K : PySem.W.Frag) (fd : FuncData), K.In h ∧ (∀ (s : Shared) (u : Value), BindsTo s fd ⟨[u], []⟩ [(x, u)]) ∧ ∀ base : Heap, FnG l.prog w K mg base k fa fd [x] (spM K [.fz] m))
    (hm : ∀ ns : List Int, ns.length ≤ n → m [.lst (ns.map .int)] = .ok [] (.fz (.bl true))) :
    PySem.W.WalkO q loose XP YP l.row.toRowW d [] (fun f vs => PySem.call f vs) := by
  refine Att.attach_call hn hdf fun w s₀ s mg mb fa o pm cd doc a vs ns G Y ho hd hcd hmg hobj hints hlen hg => ?_
  obtain ⟨K, fd, KX, hb, hF⟩ := F w mg fa _ Y G.T.g hmg
  refine ends_of KX G.T.g G.T.b G.T.builtins G.T.nolimit hg hobj hints (Nat.le_trans hlen hn2) hr hF hb fun H sq => ⟨H, H, [.lst (ns.map .int)], ⟨Ex.refl _, Ex.refl _, rfl, rfl, fun i md dd v h1 h2 h3 => ?_, fun i j l h1 => ?_⟩, ?_⟩
  · match i, h1, h2, h3 with
    | 0, h1, h2, h3 =>
      cases h1
      cases h2
      cases h3
      exact .lst sq (Reps.ints ns)
  · match i, h1 with
    | 0, h1 => cases h1
  · rw [hm ns hlen]
    intro G' B' H' v g k
    cases k with
    | fz r _ => cases r; rfl
end DN
set_option maxHeartbeats 2000000
namespace DN
open PySem PySem.Spec PyProof.Rows L2
open Evl (Ex)
/-- the turns that a while may take -/
def fuel : Nat := 100000
section
variable {X : Cx} {Wx : WX} {e : Expr} {es : List Expr} {st : Stmt} {tg iter : Expr}
def dUE : Env → O R := fun _ => .un
def dUT : Env → O Bool := fun _ => .un
def dUS : Env → O Fl := fun _ => .un
theorem ds_no : DS X Wx [] st (fun _ _ _ => False) dUS := ⟨⟨fun _ _ _ _ _ _ h => h.elim⟩, fun _ _ _ _ _ _ _ _ p => p⟩
theorem io_ok {ms : List Md} {Sb : List Nat} (h : ((List.range ms.length).all fun i => !(decide (ms[i]? = some .io)) || !(decide (i ∈ Sb))) = true) : ∀ i, ms[i]? = some .io → i ∉ Sb := fun i hi hm => by
  have hl : i < ms.length := (List.getElem?_eq_some_iff.mp hi).1
  have q := List.all_eq_true.mp h i (List.mem_range.mpr hl)
  simp [hi, hm] at q
end
section
variable {k j : Nat} {A : Around}
theorem room_1 (r : Room k A) : A.units + 1 < cLine := by have := r.un; omega
theorem room_65 (r : Room k A) : A.units + 65 < cLine := by have := r.un; omega
theorem room_64 (r : Room k A) : A.units + 64 < cLine := by have := r.un; omega
theorem room_66 (r : Room k A) : A.units + 66 < cLine := by have := r.un; omega
end
/-- a def of the module as it is known -/
structure FnI (P : Program) (w : World) (K : PySem.W.Frag) (mg : Str → Option Value) (x : Str) (k : Nat) (ps : List Str) (ms : List Md) (m : List D → FO) (f : Addr) (fd : FuncData) : Prop where
  gl : mg x = some (.ref f)
  kp : PySem.W.keepIn K (.ref f) = true
  bd : Binds K fd ps []
  ok : ∀ base : Heap, FnG P w K mg base k f fd ps (spM K ms m)
section
variable {X : Cx} {Wx : WX} {k j : Nat} {f : Addr} {fd : FuncData} {ps ks : List Str} {x : Str} {p pos : Pos} {e : Expr} {es : List Expr} {t : TA} {fs : Env → O (List R)} {ms : List Md} {m : List D → FO}
theorem de_callI (F : FnI X.prog X.w X.K X.mg x k ps ms m f fd) (hr : Room j X.A) (hj : k ≤ j) (hG : X.A.guards = some []) (tk : Takes X Wx) (hg : Gl X x)
    (ha : DA X Wx (e :: es) t fs) (hdb : (x == ("__debug__" : Str)) = false := by decide) (he : starEach (e :: es) X.env = (false, eval e X.env) :: starEach es X.env := by rfl) (hpl : (backTo pos (starEach es X.env)).any (·.1) = false := by rfl) :
    DE X Wx (.Call (.Name x p) (e :: es) [] pos) (tCallG (spM X.K (ms ++ List.replicate ([] : List D).length .fz) m) [] (WE Wx) t) (dCall ms m [] fs) :=
  de_call (dd := []) (by simpa using F.ok X.base) (hr.mono hj) hG tk hg F.gl F.kp F.bd .nil (fun _ => .nil) ha hdb he hpl
theorem de_globI {i : Int} (hg : Gl X x) (hm : ∃ t, X.mg x = some (.int i t)) (hd : (x == ("__debug__" : Str)) = false := by decide) : DE X Wx (.Name x pos) (tC (.int i)) (dC (.int i)) := by
  obtain ⟨t, ht⟩ := hm
  exact de_glob hg ht ⟨t, rfl⟩ (fun _ => .int) hd
end
/-- the built-ins' names are free -/
structure Bf (mg : Str → Option Value) : Prop where
  len : mg "len" = none
  range : mg "range" = none
  enumerate : mg "enumerate" = none
  zip : mg "zip" = none
  sorted : mg "sorted" = none
  list : mg "list" = none
  tuple : mg "tuple" = none
  int : mg "int" = none
  bool : mg "bool" = none
  str : mg "str" = none
  abs : mg "abs" = none
  max : mg "max" = none
  min : mg "min" = none
  sum : mg "sum" = none
  all : mg "all" = none
  any : mg "any" = none
  repr : mg "repr" = none
  isinstance : mg "isinstance" = none
  divmod : mg "divmod" = none
  set : mg "set" = none
  dict : mg "dict" = none
  ValueError : mg "ValueError" = none
theorem bf_of {K : PySem.W.Frag} {h : Heap} {mg : Str → Option Value} (X : K.In h) (G : h.Ns mainGlobals mg) (c : ∀ f ∈ bfFacts, f.ok K = true) : Bf mg := by
  have q : ∀ x ∈ bfNames, mg x = none := fun x hx => He.free_ok X G (c _ (List.mem_map.mpr ⟨x, hx, rfl⟩))
  exact ⟨q _ (by simp [bfNames]), q _ (by simp [bfNames]), q _ (by simp [bfNames]), q _ (by simp [bfNames]), q _ (by simp [bfNames]), q _ (by simp [bfNames]), q _ (by simp [bfNames]), q _ (by simp [bfNames]), q _ (by simp [bfNames]), q _ (by simp [bfNames]), q _ (by simp [bfNames]), q _ (by simp [bfNames]), q _ (by simp [bfNames]), q _ (by simp [bfNames]), q _ (by simp [bfNames]), q _ (by simp [bfNames]), q _ (by simp [bfNames]), q _ (by simp [bfNames]), q _ (by simp [bfNames]), q _ (by simp [bfNames]), q _ (by simp [bfNames]), q _ (by simp [bfNames])⟩
theorem bb_len : bootBuiltins "len" = some (.builtin "len") := by kernel_rfl
theorem bb_sorted : bootBuiltins "sorted" = some (.builtin "sorted") := by kernel_rfl
theorem bb_list : bootBuiltins "list" = some (.type "list") := by kernel_rfl
theorem bb_tuple : bootBuiltins "tuple" = some (.type "tuple") := by kernel_rfl
theorem bb_int : bootBuiltins "int" = some (.type "int") := by kernel_rfl
theorem bb_bool : bootBuiltins "bool" = some (.type "bool") := by kernel_rfl
theorem bb_abs : bootBuiltins "abs" = some (.builtin "abs") := by kernel_rfl
theorem bb_max : bootBuiltins "max" = some (.builtin "max") := by kernel_rfl
theorem bb_min : bootBuiltins "min" = some (.builtin "min") := by kernel_rfl
theorem bb_sum : bootBuiltins "sum" = some (.builtin "sum") := by kernel_rfl
theorem bb_all : bootBuiltins "all" = some (.builtin "all") := by kernel_rfl
theorem bb_isinstance : bootBuiltins "isinstance" = some (.builtin "isinstance") := by kernel_rfl
def gMulI : D → D → Option R := iI okMul fun i j => i * j
def gAddI : D → D → Option R := iI (fun _ _ => true) fun i j => i + j
theorem bind_full {K : PySem.W.Frag} {fd : FuncData} {ps : List Str} (h : ∃ ds, Vals [] ds ∧ Binds K fd ps ds) : Binds K fd ps [] := by
  obtain ⟨ds, v, b⟩ := h
  cases v
  exact b
theorem says_all {fa : List He.Fa} {fn : List He.DefD} {K : PySem.W.Frag} (c : He.SaysD fa fn K) : ∀ f ∈ fa, f.ok K = true := fun f hf => by
  obtain ⟨i, hi⟩ := List.getElem?_of_mem hf
  exact He.SaysD.fact c i hi
end DN
set_option maxHeartbeats 2000000
namespace DN
open PySem PySem.Spec PyProof.Rows L2
open Evl (Ex)
section
variable {K : PySem.W.Frag} {X : Cx} {Wx : WX} {e : Expr} {f : Env → O R} {pos p : Pos} {ta : TE}
/-- xs[lo:hi:st] -/
def pickL {α : Type} (xs : List α) (lo hi st : Option Int) : List α :=
  (sliceRange (sliceBounds lo hi st xs.length).1 (sliceBounds lo hi st xs.length).2.1 (sliceBounds lo hi st xs.length).2.2).filterMap (xs[·]?)
theorem vals_ix {xs : List V} {us : List Value} (h : Vals xs us) : ∀ ix : List Nat, Vals (ix.filterMap (xs[·]?)) (ix.filterMap (us[·]?))
  | [] => .nil
  | i :: ix => by
    have hl := h.length
    rw [List.filterMap_cons, List.filterMap_cons]
    cases e : xs[i]? with
    | none =>
      have e2 : us[i]? = none := List.getElem?_eq_none (by have := List.getElem?_eq_none_iff.mp e; omega)
      rw [e2]
      exact vals_ix h ix
    | some v =>
      obtain ⟨u, e2, r⟩ := h.get e
      rw [e2]
      exact .cons r (vals_ix h ix)
theorem reps_ix {H : Hp} {ds : List D} {vs : List V} (h : Reps K H ds vs) : ∀ ix : List Nat, Reps K H (ix.filterMap (ds[·]?)) (ix.filterMap (vs[·]?))
  | [] => .nil
  | i :: ix => by
    have hl := h.length
    rw [List.filterMap_cons, List.filterMap_cons]
    cases e : ds[i]? with
    | none =>
      have e2 : vs[i]? = none := List.getElem?_eq_none (by have := List.getElem?_eq_none_iff.mp e; omega)
      rw [e2]
      exact reps_ix h ix
    | some v =>
      obtain ⟨u, e2, r⟩ := h.get e
      rw [e2]
      exact .cons r (reps_ix h ix)
theorem vals_pick {xs : List V} {us : List Value} (h : Vals xs us) (lo hi st : Option Int) : Vals (pickL xs lo hi st) (pickL us lo hi st) := by
  unfold pickL
  rw [h.length]
  exact vals_ix h _
theorem reps_pick {H : Hp} {ds : List D} {vs : List V} (h : Reps K H ds vs) (lo hi st : Option Int) : Reps K H (pickL ds lo hi st) (pickL vs lo hi st) := by
  unfold pickL
  rw [h.length]
  exact reps_ix h _
theorem pick_arr (its : List Value) (lo hi st : Option Int) : slicePick its.toArray lo hi st = (pickL its lo hi st).toArray := by
  unfold slicePick pickL
  simp
def rPk (K : PySem.W.Frag) : V → Option Int → Option Int → Option Int → Hp → VK → Prop := fun x lo hi st H Q => ∃ a xs, x = .ref a ∧ SqL K H a xs ∧ st ≠ some 0 ∧ (pickL xs lo hi st).length ≤ sizeLine ∧ ∀ p, H p = none → Q (.ref p) (upd H p (.lst (pickL xs lo hi st)))
def tPk (K : PySem.W.Frag) (te : TE) (tl th ts : TO) : TE := fun σ H Q => te σ H fun x H1 => tl σ H1 fun l H2 => th σ H2 fun u H3 => ts σ H3 fun st H4 => rPk K x l u st H4 Q
theorem pe_pk {lo hi : Option Expr} {st : Expr} {tl th ts : TO} {p2 : Pos} (he : PE X e ta) (hl : PO X lo tl) (hu : PO X hi th) (hs : PO X (some st) ts) : PE X (.Subscript e (.Slice lo hi (some st) p2) pos) (tPk X.K ta tl th ts) := by
  refine ⟨fun pins s σ H Q I h => Subscript_ (thn (he.run pins s σ H _ I h) fun v s1 h1 => ?_)⟩
  obtain ⟨x, H1, I1, r1, q1⟩ := h1
  refine wpAny_Slice (thn (hl.run pins s1 σ H1 _ I1 q1) fun vl s2 ⟨l, H2, I2, pl, q2⟩ => thn (hu.run pins s2 σ H2 _ I2 q2) fun vu s3 ⟨u, H3, I3, pu, q3⟩ => thn (hs.run pins s3 σ H3 _ I3 q3) fun vs s4 ⟨o, H4, I4, ps, q4⟩ => ?_)
  obtain ⟨a, xs, ex, hx, h0, hz2, q⟩ := q4
  subst ex
  cases r1
  have I5 : L2.Inv X pins σ H4 { s4 with heap := s4.heap.push { cls := .type "slice", data := .fields #[vl, vu, vs] } } := I4.kept (t' := s4.toks) fun b ob q => Heap.get?_push_of_some _ q
  obtain ⟨its, r, ht, hz⟩ := I5.list hx
  have hlen := r.length
  show wpAny (model X.prog X.w) X.A (subscriptTail e (.Slice lo hi (some st) p2) (.ref a) (.ref s4.heap.objs.size)) (EP X pins σ Q) X.xe { s4 with heap := s4.heap.push { cls := .type "slice", data := .fields #[vl, vu, vs] } }
  refine tail_any (ops := [.ref a, .ref s4.heap.objs.size]) ht.isList.typeIs (PySem.slot_list_getitem.lookup) ?_ (by with_unfolding_all rfl)
  refine wpAny_getItem_list_slice ht.isList (Heap.IsSliceOf.new _ vl vu vs) pl pu ps h0 ?_ (by rw [List.size_toArray]; omega)
  rw [pick_arr]
  exact ⟨.ref _, _, I5.laid (t' := s4.toks) (o := .lst (pickL xs l u o)) (fun b ob q => Heap.get?_push_of_some _ q) (Nat.le_refl _) ⟨hz2, _, 0, vals_pick r l u o, Heap.get?_push_size _ rfl⟩, rfl, q _ (I5.hok.fresh (Nat.le_refl _))⟩
def gPk (x : D) (lo hi st : Option Int) : Option R := match x with
  | .lst ds => if (decide (st ≠ some 0) && decide ((pickL ds lo hi st).length ≤ 100000)) = true then some (.own (.lst (pickL ds lo hi st))) else none
  | _ => none
def dPk (f : Env → O R) (lo hi st : Env → O (Option Int)) : Env → O R := fun ρ => (dN f ρ).bind fun ρ r => (lo ρ).bind fun ρ l => (hi ρ).bind fun ρ u => (st ρ).bind fun ρ s => (use1 ρ r).bind fun ρ d => ret ρ (gPk d l u s)
theorem de_pk {lo hi : Option Expr} {st : Expr} {tl th ts : TO} {fl fh fs : Env → O (Option Int)} {p2 : Pos} (ha : DE X Wx e ta f) (hl : DP X Wx lo tl fl) (hh : DP X Wx hi th fh) (hs : DP X Wx (some st) ts fs) :
    DE X Wx (.Subscript e (.Slice lo hi (some st) p2) pos) (tPk X.K ta tl th ts) (dPk f fl fh fs) :=
  ⟨pe_pk ha.1 hl.1 hh.1 hs.1, fun L G B H σ ρ Q s p => ha.2.n L G B H σ ρ _ s ((Post.bind p).imp fun ρ1 r1 G1 B1 H1 _ q1 v k1 => k1.thenP hl.2 ((Post.bind q1).imp fun ρ2 l G2 B2 H2 _ q2 k2 => k2.thenP hh.2 ((Post.bind q2).imp fun ρ3 u G3 B3 H3 _ q3 k3 =>
    k3.thenP hs.2 ((Post.bind q3).imp fun ρ4 so G4 B4 H4 _ q4 k4 => by
    unfold use1 at q4
    cases eu : useR ρ4 r1 with
    | none => simp only [eu] at q4; exact q4.elim
    | some d =>
      simp only [eu] at q4
      obtain ⟨z, ez, rz⟩ := ret_ok k4.state q4
      unfold gPk at ez
      have t := k4.use eu
      split at ez
      · split at ez
        · rename_i hz
          cases ez
          have hz := Bool.and_eq_true_iff.mp hz
          cases t with
          | lst a r => exact ⟨_, _, rfl, a.sql, of_decide_eq_true hz.1, by rw [(reps_pick r l u so).length]; exact line_of (of_decide_eq_true hz.2), fun p hp => rz p _ hp (.lst (reps_pick r l u so))⟩
        · cases ez
      · cases ez))))⟩
def tS (K : PySem.W.Frag) (Wx : WX) (f : Env → O R) : TE := fun σ H Q => ∃ L G B ρ, OkS K L G B H σ ρ ∧ Post K Wx L G B σ (f ρ) (fun ρ' r G' B' H' => ∀ v, OkVs K L G' H' σ ρ' B' [r] [v] → Q v H')
theorem DE.star {t : TE} (h : DE X Wx e t f) : DE X Wx e (tS X.K Wx f) f :=
  ⟨⟨fun pins s σ H Q I ⟨L, G, B, ρ, ok, p⟩ => h.1.run pins s σ H Q I (h.2 L G B H σ ρ Q ok p)⟩, fun L G B H σ ρ Q s p => ⟨L, G, B, ρ, s, p⟩⟩
def tTS (K : PySem.W.Frag) (Wx : WX) (f : Env → O Bool) : TT := fun σ H Q => ∃ L G B ρ, OkS K L G B H σ ρ ∧ Post K Wx L G B σ (f ρ) (fun ρ' b G' B' H' => OkS K L G' B' H' σ ρ' → Q b H')
theorem DIfs.star {es : List Expr} {t : TT} {f : Env → O Bool} (h : DIfs X Wx es t f) : DIfs X Wx es (tTS X.K Wx f) f :=
  ⟨⟨fun pins s σ H Q I ⟨L, G, B, ρ, ok, p⟩ => h.1.run pins s σ H Q I (h.2 L G B H σ ρ Q ok p)⟩, fun L G B H σ ρ Q s p => ⟨L, G, B, ρ, s, p⟩⟩
def gS (K : PySem.W.Frag) (S : List Nat) (g : Env → R → O Unit) : TG := fun v σ H Q => ∃ L G B ρ r ρ' u, OkVs K L G H σ ρ B [r] [v] ∧ g ρ r = .ok ρ' u ∧ ∀ G' B' σ', Grow G B G' B' → Stay S σ σ' → OkS K L G' B' H σ' ρ' → Q σ' H
theorem DG.star {tg : Expr} {S : List Nat} {t : TG} {g : Env → R → O Unit} (h : DG X S tg t g) : DG X S tg (gS X.K S g) g :=
  ⟨⟨fun pins s σ H v u Q I r ⟨L, G, B, ρ, z, ρ', u', k, e, q⟩ => h.1.run pins s σ H v u Q I r (h.2.1 L G B H σ ρ z v Q ρ' u' k e q)⟩, fun L G B H σ ρ r v Q ρ' u k e q => ⟨L, G, B, ρ, r, ρ', u, k, e, q⟩, h.2.2⟩
variable {tg elt iter : Expr} {ifs : List Expr} {wi : TI} {fi : Env → O (List R)} {scope : Scope} {own : List (Str × Nat)} {S : List Nat} {g : Env → R → O Unit} {ft : Env → O Bool} {fe : Env → O R}
theorem de_lcX (hc : X.calm = true) (hN : X.N.Nodup) (hi : DI X Wx tg iter wi fi) (ok : BlkOk X.N X.env.scope scope own) (hg : Blk X scope fun Y => ∃ g0, DG Y S tg g0 g) (ht : Blk X scope fun Y => ∃ tt, DIfs Y W0 ifs tt ft) (he : Blk X scope fun Y => ∃ te, DE Y W0 elt te fe)
    (hsub : ∀ i, i ∈ S → i ∈ own.map (·.2) := by decide) (hs : ∀ x, foldedSetIterable iter X.env x = pure x := by intro _; rfl) : DE X Wx (.ListComp elt [⟨tg, iter, ifs, 0⟩] scope pos) (tLc wi (gS X.K S g) (tTS X.K W0 ft) (tS X.K W0 fe) (own.map (·.2))) (dLc fi g ft fe (own.map (·.2))) :=
  de_lc hc hN hi ok (fun s H C cl fp => let ⟨_, h⟩ := hg s H C cl fp; h.star) (fun s H C cl fp => let ⟨_, h⟩ := ht s H C cl fp; h.star) (fun s H C cl fp => let ⟨_, h⟩ := he s H C cl fp; h.star) hsub hs
theorem ds_setLcX {i : Nat} {y : Str} {py spos : Pos} (hc : X.calm = true) (hN : X.N.Nodup) (hy : X.N[i]? = some y) (hyl : X.env.scope.names.lookup y = some .local)
    (hsw : swapsWith (.ListComp elt [⟨tg, iter, ifs, 0⟩] scope pos) (some (.Name y py)) spos.line X.env = pure true) (hi : DI X Wx tg iter wi fi) (ok : BlkOk X.N X.env.scope scope own) (hg : Blk X scope fun Y => ∃ g0, DG Y S tg g0 g) (ht : Blk X scope fun Y => ∃ tt, DIfs Y W0 ifs tt ft) (he : Blk X scope fun Y => ∃ te, DE Y W0 elt te fe)
    (hsub : ∀ i, i ∈ S → i ∈ own.map (·.2) := by decide) (hs : ∀ x, foldedSetIterable iter X.env x = pure x := by intro _; rfl) : DS X Wx [i] (.Assign [.Name y py] (.ListComp elt [⟨tg, iter, ifs, 0⟩] scope pos) spos) (tAsg (tLc wi (gS X.K S g) (tTS X.K W0 ft) (tS X.K W0 fe) (own.map (·.2))) (gName i)) (dAsg (store i) (dLc fi g ft fe (own.map (·.2)))) :=
  ds_setLc hc hN hy hyl hsw hi ok (fun s H C cl fp => let ⟨_, h⟩ := hg s H C cl fp; h.star) (fun s H C cl fp => let ⟨_, h⟩ := ht s H C cl fp; h.star) (fun s H C cl fp => let ⟨_, h⟩ := he s H C cl fp; h.star) hsub hs
end
end DN
set_option maxHeartbeats 2000000
namespace DN
open PySem PySem.Spec PyProof.Rows L2
open Evl (Ex)
theorem OkVs.unlend {K : PySem.W.Frag} {L : Lent} {G B G' B1 H' : Hp} {σ : L2.St} {ρ : Env} {j : Nat} {l : Addr} {o : HO} {d : D} {rs : List R} {vs : List V} (gb : Ex G B) (lb : LB L B) (b0 : B l = none) (h1 : σ[j]? = some (some (.ref l))) (h4 : RepO K G d o)
    (k : OkVs K (L.more j l o) G' H' σ ρ B1 rs vs) : Grow G (upd B l o) G' B1 → OkVs K L G' H' σ (ρ.set j (.own d)) (del B1 l) rs vs := by
  induction k with
  | nil s => intro gr; exact .nil (s.unlend gb lb b0 gr h1 h4)
  | fz a _ ih => intro gr; exact .fz a (ih gr)
  | bor a _ ih => intro gr; exact .bor a (ih gr)
  | @own B1 m u dd rs vs g0 l0 b1 a k ih =>
    intro gr
    have hm : m ≠ l := fun z => by subst z; rw [gr.bb m o upd_same] at b1; cases b1
    have nl : NL L m := fun i o' q => by
      have q1 := lb i m o' q
      have q2 := gr.bb m o' (by rw [upd_ne hm]; exact q1)
      rw [b1] at q2; cases q2
    refine .own g0 nl (by rw [del_ne hm]; exact b1) a ?_
    have e : upd (del B1 l) m u = del (upd B1 m u) l := by
      funext x; unfold upd del
      by_cases h1 : x = m
      · subst h1; simp [hm]
      · by_cases h2 : x = l <;> simp [h1, h2, Ne.symm hm]
    rw [e]
    exact ih ⟨gr.bb.trans (Ex.new b1), gr.fr⟩
  | @tp B1 m qs ws rs vs g0 l0 b1 n k ih =>
    intro gr
    have hm : m ≠ l := fun z => by subst z; rw [gr.bb m o upd_same] at b1; cases b1
    have nl : NL L m := fun i o' q => by
      have q1 := lb i m o' q
      have q2 := gr.bb m o' (by rw [upd_ne hm]; exact q1)
      rw [b1] at q2; cases q2
    refine .tp g0 nl (by rw [del_ne hm]; exact b1) n ?_
    have e : upd (del B1 l) m (.tup ws) = del (upd B1 m (.tup ws)) l := by
      funext x; unfold upd del
      by_cases h1 : x = m
      · subst h1; simp [hm]
      · by_cases h2 : x = l <;> simp [h1, h2, Ne.symm hm]
    rw [e]
    exact ih ⟨gr.bb.trans (Ex.new b1), gr.fr⟩
def unlendO {α : Type} (j : Nat) (d : D) : O α → O α
  | .ok ρ a => .ok (ρ.set j (.own d)) a
  | .er ρ e => .er (ρ.set j (.own d)) e
  | .un => .un
def dLend (j : Nat) (f : Env → O R) : Env → O R := fun ρ => match ρ[j]? with
  | some (.own d) => unlendO j d (f (ρ.set j (.ln d)))
  | _ => f ρ
def dLendS (j : Nat) (f : Env → O Fl) : Env → O Fl := fun ρ => match ρ[j]? with
  | some (.own d) => unlend j d (f (ρ.set j (.ln d)))
  | _ => f ρ
section
variable {K : PySem.W.Frag} {X : Cx} {Wx : WX} {e tg : Expr} {f : Env → O R} {pos p : Pos} {ta : TE} {st : Stmt} {t : TS} {fs : Env → O Fl} {S : List Nat}
theorem SemE.lend (j : Nat) (h : SemE X Wx ta f) : SemE X Wx ta (dLend j f) := fun L G B H σ ρ Q s p => by
  unfold dLend at p
  cases ej : ρ[j]? with
  | none => simp only [ej] at p; exact h L G B H σ ρ Q s p
  | some x =>
    cases x with
    | un => simp only [ej] at p; exact h L G B H σ ρ Q s p
    | fz _ => simp only [ej] at p; exact h L G B H σ ρ Q s p
    | ln _ => simp only [ej] at p; exact h L G B H σ ρ Q s p
    | own d =>
      simp only [ej] at p
      obtain ⟨l, o, h1, h2, h3, h4⟩ := s.ow j d ej
      have back : ∀ {G' B' : Hp}, Grow G (upd B l o) G' B' → Grow G B G' (del B' l) := fun {G' B'} gr => ⟨ex_del gr.bb h2, fun a u ha => gr.fr a u (by rw [upd_ne (ne_of_none ha h2)]; exact ha)⟩
      refine h (L.more j l o) G (upd B l o) H σ (ρ.set j (.ln d)) Q (s.lend ej h1 h2 h3 h4) ?_
      cases ef : f (ρ.set j (.ln d)) with
      | un => rw [ef] at p; exact p
      | er ρ' e' =>
        rw [ef] at p
        exact fun G' B' H' c d' gr s' oe => p G' (del B' l) H' c d' (back gr) (s'.unlend s.gb s.lb h2 gr h1 h4) oe
      | ok ρ' r =>
        rw [ef] at p
        exact fun G' B' H' gr v k => p G' (del B' l) H' (back gr) v (OkVs.unlend s.gb s.lb h2 h1 h4 k gr)
theorem de_lend (j : Nat) (h : DE X Wx e ta f) : DE X Wx e ta (dLend j f) := ⟨h.1, h.2.lend j⟩
theorem ds_lend (j : Nat) (h : DS X Wx S st t fs) (hj : j ∉ S := by decide) : DS X Wx S st t (dLendS j fs) := ⟨h.1, fun L G B H σ ρ D s p => by
  unfold dLendS at p
  cases ej : ρ[j]? with
  | none => simp only [ej] at p; exact h.2 L G B H σ ρ D s p
  | some x =>
    cases x with
    | un => simp only [ej] at p; exact h.2 L G B H σ ρ D s p
    | fz _ => simp only [ej] at p; exact h.2 L G B H σ ρ D s p
    | ln _ => simp only [ej] at p; exact h.2 L G B H σ ρ D s p
    | own d =>
      simp only [ej] at p
      obtain ⟨l, o, h1, h2, h3, h4⟩ := s.ow j d ej
      exact h.2 (L.more j l o) G (upd B l o) H σ (ρ.set j (.ln d)) D (s.lend ej h1 h2 h3 h4) (post_unlend s.gb s.lb h1 h2 h4 hj p)⟩
/-- what stands in a slot that is read alone -/
def lnD (ρ : Env) (j : Nat) : Option D := match ρ[j]? with
  | some (.ln d) => some d
  | some (.fz d) => some d
  | _ => none
theorem OkS.lnTop {L : Lent} {G B H : Hp} {σ : L2.St} {ρ : Env} {j : Nat} {d : D} (s : OkS K L G B H σ ρ) (h : lnD ρ j = some d) : ∃ v, σ[j]? = some (some v) ∧ Top K G B d v := by
  unfold lnD at h
  split at h
  · rename_i d' e
    cases h
    obtain ⟨v, h1, h2⟩ := s.ln j _ e
    refine ⟨v, h1, ?_⟩
    rcases h2 with h2 | ⟨l, o, rfl, h3, h4⟩
    · exact h2.top s.gb
    · exact h4.top (s.lb _ _ _ h3)
  · rename_i d' e
    cases h
    obtain ⟨v, h1, h2⟩ := s.fz j _ e
    exact ⟨v, h1, h2.top s.gb⟩
  · cases h
def dItLn (j : Nat) : Env → O (List R) := fun ρ => match (lnD ρ j).bind itemsOf with
  | some rs => .ok ρ rs
  | none => .un
theorem di_ln {x : Str} {px : Pos} (j : Nat) (hN : X.N[j]? = some x := by rfl) (hv : Vis X.env.scope x := by first | exact Or.inl rfl | exact Or.inr (Or.inl rfl) | exact Or.inr (Or.inr rfl)) (hd : (x == ("__debug__" : Str)) = false := by decide)
    (hcd : (x == ("__classdict__" : Str)) = false := by decide) : DI X Wx tg (.Name x px) (iAny X.K (tVar j)) (dItLn j) := by
  refine ⟨pi_any (pe_var hN hv hd hcd), fun L G B H σ ρ Z s p => ?_⟩
  unfold dItLn at p
  cases e : lnD ρ j with
  | none => simp only [e, Option.bind_none] at p; exact p.elim
  | some d =>
    simp only [e, Option.bind_some] at p
    obtain ⟨v, hv, t⟩ := s.lnTop e
    refine ⟨v, hv, ?_⟩
    cases t <;> simp only [itemsOf] at p <;> try exact p.elim
    · exact .inr (.inr ⟨_, rfl, Post.okD p H s _ src_str⟩)
    · rename_i ha hr
      exact .inl ⟨_, _, rfl, (ha.mono s.bh).sql, Post.okD p H s _ (src_list (fun H e => (ha.mono e).sql) hr s.gb)⟩
    · rename_i ha hr
      exact .inr (.inl ⟨_, _, rfl, Evl.ex_t s.bh ha, Post.okD p H s _ (src_tup (fun H e => Evl.ex_t e ha) hr s.gb)⟩)
def dEnLn (j : Nat) : Env → O (List R) := fun ρ => match lnD ρ j with
  | some (.lst ds) => .ok ρ (enumItems ds)
  | _ => .un
theorem di_enumLn {x : Str} {px : Pos} {elts : List Expr} {kk : Nat} {tpos : Pos} (j : Nat) (hg : Gl X "enumerate") (hm : X.mg "enumerate" = none) (hN : X.N[j]? = some x := by rfl)
    (hv : Vis X.env.scope x := by first | exact Or.inl rfl | exact Or.inr (Or.inl rfl) | exact Or.inr (Or.inr rfl)) (hd : (x == ("__debug__" : Str)) = false := by decide)
    (hcd : (x == ("__classdict__" : Str)) = false := by decide) (hs : starEach [.Name x px] X.env = [(false, eval (.Name x px) X.env)] := by rfl) :
    DI X Wx (.Tuple elts kk tpos) (.Call (.Name "enumerate" p) [.Name x px] [] pos) (iEnum X.K (tCons (tVar j) tNil)) (dEnLn j) := by
  refine ⟨pi_enum hg hm (pa_cons (pe_var hN hv hd hcd) pa_nil hs) hs, fun L G B H σ ρ Z s p => ?_⟩
  unfold dEnLn at p
  cases e : lnD ρ j with
  | none => simp only [e] at p; exact p.elim
  | some d =>
    obtain ⟨v, hv, t⟩ := s.lnTop e
    cases d <;> simp only [e] at p <;> try exact p.elim
    cases t with
    | lst ha hr => exact ⟨_, hv, _, _, rfl, (ha.mono s.bh).sql, Post.okD p H s _ (src_enum (fun H e => (ha.mono e).sql) hr s.gb)⟩
end
end DN
set_option maxHeartbeats 2000000
namespace DN
open PySem PySem.Spec PyProof.Rows L2
open Evl (Ex)
section
variable {K : PySem.W.Frag} {X : Cx}
def gEqS (x y : D) : Option R := match x, y with
  | .str a, .str b => some (.fz (.bl (decide (a = b))))
  | _, _ => none
def gNeS (x y : D) : Option R := match x, y with
  | .str a, .str b => some (.fz (.bl (!decide (a = b))))
  | _, _ => none
theorem str_dec {a b : Str} : decide (V.str a = V.str b) = decide (a = b) := by
  rw [Bool.eq_iff_iff]
  simp
theorem s_eqS : OpSound K gEqS rEq := by
  intro G H x y v u z Q _ tx ty e q
  unfold gEqS at e
  split at e
  · cases e
    cases tx
    cases ty
    exact ⟨rfl, by rw [str_dec]; exact q _ .bl⟩
  · cases e
theorem s_neS : OpSound K gNeS rNe := by
  intro G H x y v u z Q _ tx ty e q
  unfold gNeS at e
  split at e
  · cases e
    cases tx
    cases ty
    exact ⟨rfl, by rw [str_dec]; exact q _ .bl⟩
  · cases e
def gEq2 : D → D → Option R := orE gEqS gEq
def gNe2 : D → D → Option R := orE gNeS gNe
def rEq2 (K : PySem.W.Frag) : R2 := fun x y H Q => rEq x y H Q ∨ rEqD K x y H Q
def rNe2 (K : PySem.W.Frag) : R2 := fun x y H Q => rNe x y H Q ∨ rNeD K x y H Q
theorem op_eq2 (hu : X.A.units + 64 < cLine) : OpR X (compareOp .Eq) (rEq2 X.K) := OpR.or op_eq (op_eqD hu)
theorem op_ne2 (hu : X.A.units + 64 < cLine) : OpR X (compareOp .NotEq) (rNe2 X.K) := OpR.or op_ne (op_neD hu)
theorem s_eq2 : OpSound K gEq2 (rEq2 K) := OpSound.or s_eqS s_eq
theorem s_ne2 : OpSound K gNe2 (rNe2 K) := OpSound.or s_neS s_ne
end
end DN
namespace DN
open PySem PySem.Spec PyProof.Rows L2
def isBD : D → Bool → Bool
  | .bl c, b => c == b
  | _, _ => false
def gIsB (x y : D) : Option R := match y with
  | .bl b => some (.fz (.bl (isBD x b)))
  | _ => none
def gNotB (x y : D) : Option R := match y with
  | .bl b => some (.fz (.bl (!isBD x b)))
  | _ => none
end DN
namespace DN
open PySem PySem.Spec PyProof.Rows L2
end DN
namespace L2
open PySem PySem.Spec PyProof.Rows
end L2
namespace DN
open PySem PySem.Spec PyProof.Rows L2
end DN
namespace DN
open PySem PySem.Spec PyProof.Rows L2
def zipLn2 (es : List D) (ρ : Env) : List D → O (List R)
  | [.lst gs] => .ok ρ (zipItems es gs)
  | _ => .un
def zipLn1 (fs : Env → O (List R)) (ρ : Env) : Option D → O (List R)
  | some (.lst es) => (fs ρ).bind fun ρ rs => (escs ρ rs).bind fun ρ ds => zipLn2 es ρ ds
  | _ => .un
def dZipLn (j : Nat) (fs : Env → O (List R)) : Env → O (List R) := fun ρ => zipLn1 fs ρ (lnD ρ j)
end DN
set_option maxHeartbeats 2000000
namespace DN
open PySem PySem.Spec PyProof.Rows L2
open Evl (Ex)
structure FldOk (K : PySem.W.Frag) (cs : List Str) (f : Str) : Prop where
  c : ∀ C ∈ cs, Cls K (He.ga K C)
  n : ∀ C ∈ cs, NoAttr K (He.ga K C) f
theorem FldOk.nil {K : PySem.W.Frag} {f : Str} : FldOk K [] f := ⟨fun _ h => (nomatch h), fun _ h => (nomatch h)⟩
theorem FldOk.cons {K : PySem.W.Frag} {C : Str} {cs : List Str} {f : Str} (a : Cls K (He.ga K C)) (b : NoAttr K (He.ga K C) f) (h : FldOk K cs f) : FldOk K (C :: cs) f :=
  ⟨fun D hD => (List.mem_cons.mp hD).elim (fun e => e ▸ a) (h.c D), fun D hD => (List.mem_cons.mp hD).elim (fun e => e ▸ b) (h.n D)⟩
def fldD (f : Str) : List (Str × D) → Option D
  | [] => none
  | (g, d) :: r => if f = g then some d else fldD f r
def gFld (cs : List Str) (f : Str) : D → Option R
  | .ins C fs => if C ∈ cs then (fldD f fs).map .fz else none
  | _ => none
theorem RepF.get {K : PySem.W.Frag} {H : Hp} {f : Str} {d : D} : ∀ {fs : List (Str × D)} {ws : List (Str × V)}, RepF K H fs ws → fldD f fs = some d → ∃ v, ws.lookup f = some v ∧ Rep K H d v
  | _, _, .nil, e => by cases e
  | (g, d0) :: r, (_, w) :: ws, .cons a t, e => by
    unfold fldD at e
    by_cases h : f = g
    · rw [if_pos h] at e
      cases e
      subst h
      exact ⟨_, by simp [List.lookup], a⟩
    · rw [if_neg h] at e
      obtain ⟨v, h1, h2⟩ := RepF.get t e
      refine ⟨v, ?_, h2⟩
      rw [List.lookup_cons, beq_eq_false_iff_ne.mpr h]
      exact h1
theorem RepF.none {K : PySem.W.Frag} {H : Hp} {f : Str} : ∀ {fs : List (Str × D)} {ws : List (Str × V)}, RepF K H fs ws → fldD f fs = Option.none → ws.lookup f = Option.none
  | _, _, .nil, e => rfl
  | (g, d0) :: r, (_, w) :: ws, .cons a t, e => by
    unfold fldD at e
    by_cases h : f = g
    · rw [if_pos h] at e; cases e
    · rw [if_neg h] at e
      rw [List.lookup_cons, beq_eq_false_iff_ne.mpr h]
      exact RepF.none t e
theorem RepF.length {K : PySem.W.Frag} {H : Hp} : ∀ {fs : List (Str × D)} {ws : List (Str × V)}, RepF K H fs ws → ws.length = fs.length
  | _, _, .nil => rfl
  | _, _, .cons _ t => congrArg (· + 1) (RepF.length t)
def putFD (f : Str) (d : D) : List (Str × D) → List (Str × D)
  | [] => [(f, d)]
  | (g, e) :: r => if f = g then (g, d) :: r else (g, e) :: putFD f d r
theorem RepF.put {K : PySem.W.Frag} {H : Hp} {f : Str} {d : D} {v : V} (rd : Rep K H d v) : ∀ {fs : List (Str × D)} {ws : List (Str × V)}, RepF K H fs ws → RepF K H (putFD f d fs) (putF f v ws)
  | _, _, .nil => .cons rd .nil
  | (g, d0) :: r, (_, w) :: ws, .cons a t => by
    unfold putFD putF
    by_cases h : f = g
    · subst h
      simp only [if_true, beq_self_eq_true]
      exact .cons rd t
    · have h' : ¬ g = f := fun e => h e.symm
      simp only [if_neg h, if_neg h', beq_eq_false_iff_ne.mpr h, beq_eq_false_iff_ne.mpr h', Bool.false_eq_true, if_false]
      exact .cons a (RepF.put rd t)
section
variable {K : PySem.W.Frag} {X : Cx} {Wx : WX} {e : Expr} {g : Env → O R} {pos p : Pos} {ta tv : TE} {f x : Str} {cs : List Str}
def putAt (cs : List Str) (f : Str) (d : D) : Option D → Option D
  | some (.ins C fs) => if C ∈ cs then (if fs.length < 1000 then some (.ins C (putFD f d fs)) else none) else none
  | _ => none
def finFld (ρ : Env) (j : Nat) : Option D → O Unit
  | some x => .ok (ρ.set j (.own x)) ()
  | none => .un
/-- slot j is an instance of its own: its field takes what is at hand -/
def storeF (j : Nat) (cs : List Str) (f : Str) : Env → R → O Unit := fun ρ r => (esc ρ r).bind fun ρ d => finFld ρ j (putAt cs f d (ownAt ρ j))
inductive Tg where
  | nm (i : Nat) | fld (j : Nat) (cs : List Str) (f : Str) | ix (j i : Nat)
/-- an item by the number that a slot holds -/
def ixAt (d : D) : Option D → Option D → Option D
  | some x, some (.int n) => gPut x (.int n) d
  | _, _ => none
def Tg.put : Tg → Env → D → Option Env
  | .nm i, ρ, d => some (ρ.set i (.fz d))
  | .fld j cs f, ρ, d => (putAt cs f d (ownAt ρ j)).map fun x => ρ.set j (.own x)
  | .ix j i, ρ, d => (ixAt d (ownAt ρ j) (lnD ρ i)).map fun x => ρ.set j (.own x)
def putTs : List Tg → List D → Env → Option Env
  | [], [], ρ => some ρ
  | t :: ts, d :: ds, ρ => (t.put ρ d).bind (putTs ts ds)
  | _, _, _ => none
def finTs (ts : List Tg) (ds : List D) (ρ : Env) : O Unit := match putTs ts ds ρ with
  | some ρ' => .ok ρ' ()
  | none => .un
def escTs (ts : List Tg) (ρ : Env) (rs : List R) : O Unit := if rs.length = ts.length then (match escRs ρ rs with
    | some (ρ', ds) => finTs ts ds ρ'
    | none => .un) else .un
def storeT (ts : List Tg) : Env → R → O Unit := fun ρ r => match partsR ρ r with
  | some rs => escTs ts ρ rs
  | none => .un
end
end DN
set_option maxHeartbeats 2000000
namespace DN
open PySem PySem.Spec PyProof.Rows L2
open Evl (Ex)
section
variable {K : PySem.W.Frag} {L : Lent} {G B H : Hp} {σ : L2.St} {ρ : Env} {rs : List R} {vs : List V} {d : D} {l : Addr} {o : HO}
/-- the new instance, where its __init__ returned -/
def mkFin (ms : List Md) (ρ : Env) (rs : List R) : FO → O R
  | .ok (d :: outs) (.fz .non) => .ok (putIO (unIO ρ (ioSl ms rs)) ms rs outs) (.own d)
  | .er (_ :: outs) e => .er (putIO (unIO ρ (ioSl ms rs)) ms rs outs) e
  | _ => .un
def mkRun (C : Str) (ms : List Md) (m : List D → FO) (ρ : Env) (rs : List R) : Option (List D) → O R
  | some ds => mkFin ms ρ rs (m (.ins C [] :: ds))
  | none => .un
def makeM (C : Str) (ms : List Md) (m : List D → FO) (ρ : Env) (rs : List R) : O R := match passA ρ ms rs with
  | some (ρ1, rs1) => if ioOk ms rs1 = true then mkRun C ms m ρ1 rs1 (passB ρ1 ms rs1) else .un
  | none => .un
end
section
variable {X : Cx} {Wx : WX} {k j : Nat} {f C : Addr} {fd : FuncData} {ps : List Str} {sp : Sp} {E : L2.St → XK} {x m : Str} {p pos apos : Pos} {e o : Expr} {es : List Expr} {t : TA} {ta : TE} {ds : List Value} {dv : List V}
def dMake (C : Str) (ms : List Md) (m : List D → FO) (fs : Env → O (List R)) : Env → O R := fun ρ => (fs ρ).bind fun ρ rs => makeM C ms m ρ rs
def altD : List (Str × (List D → FO)) → Str → Option (List D → FO)
  | [], _ => none
  | p :: r, C => if p.1 = C then some p.2 else altD r C
def runMe (ms : List Md) (fs : Env → O (List R)) (ρ : Env) (r : R) : Option (List D → FO) → O R
  | some d => (fs ρ).bind fun ρ rs => callM ms d ρ (r :: rs)
  | none => .un
def isMe (m : Str) (ms : List Md) (tb : List (Str × (List D → FO))) (fs : Env → O (List R)) (ρ : Env) (r : R) : Option D → O R
  | some (.ins C fl) => if fldD m fl = none then runMe ms fs ρ r (altD tb C) else .un
  | _ => .un
def dMeth (m : Str) (ms : List Md) (tb : List (Str × (List D → FO))) (fo : Env → O R) (fs : Env → O (List R)) : Env → O R := fun ρ => (dN fo ρ).bind fun ρ r => isMe m ms tb fs ρ r (useR ρ r)
end
end DN
set_option maxHeartbeats 2000000
namespace DN
open PySem PySem.Spec PyProof.Rows L2
open Evl (Ex)
section
variable {K : PySem.W.Frag} {X : Cx} {Wx : WX} {e : Expr} {es : List Expr} {f fk fd : Env → O R} {fs : Env → O (List R)} {pos p : Pos} {ta tk td : TE} {tr : TA}
def itemsR : D → Option (List R)
  | .lst ds => some (ds.map .fz)
  | .tup ds => some (ds.map .fz)
  | _ => none
def finStar (ρ : Env) (fs : Env → O (List R)) : Option (List R) → O (List R)
  | some is => (fs ρ).bind fun ρ rs => .ok ρ (is ++ rs)
  | none => .un
def dStar (f : Env → O R) (fs : Env → O (List R)) : Env → O (List R) := fun ρ => (dN f ρ).bind fun ρ r => finStar ρ fs ((useR ρ r).bind itemsR)
def getOr (x y d : D) : Option R := match x with
  | .dct kvs => (keyD y).map fun k => .fz ((valD kvs k).getD d)
  | _ => none
def isDct : Option D → Bool
  | some (.dct _) => true
  | _ => false
def finGet (ρ : Env) : R → Option D → Option D → O R
  | .fz d, some y, some x => ret ρ (getOr x y d)
  | _, _, _ => .un
def dGet (fo fk fd : Env → O R) : Env → O R := fun ρ => (dN fo ρ).bind fun ρ r1 => if isDct (useR ρ r1) = true then (dN fk ρ).bind fun ρ r2 => (dE fd ρ).bind fun ρ r3 => finGet ρ r3 (useR ρ r2) (useR ρ r1) else .un
end
end DN
namespace DN
open PySem
end DN
set_option maxHeartbeats 2000000
namespace DN
open PySem PySem.Spec PyProof.Rows L2
open Evl (Ex)
def lstR : R → Option (List D)
  | .fz (.lst ds) => some ds
  | _ => none
def flatR : List R → Option (List D)
  | [] => some []
  | r :: rs => (lstR r).bind fun ds => (flatR rs).map (ds ++ ·)
def finFlat (ρ : Env) : Option (List D) → O R
  | some ds => if ds.length < 100000 then .ok ρ (.own (.lst ds)) else .un
  | none => .un
def dFlat (fi : Env → O (List R)) (i j : Nat) : Env → O R := fun ρ => (fi ρ).bind fun ρ items => if (noOwnAt ρ [i, j] && (decide (i < ρ.length) && decide (j < ρ.length))) = true then finFlat ρ (flatR items) else .un
section
variable {X : Cx} {Wx : WX} {wi : TI} {fi : Env → O (List R)}
theorem flatR_drop : ∀ {items : List R} {n : Nat} {all : List D}, flatR items = some all → n ≤ items.length → ∃ a b, flatR (items.take n) = some a ∧ flatR (items.drop n) = some b ∧ all = a ++ b
  | [], n, all, e, h => by
    cases e
    exact ⟨[], [], by simp [flatR], by simp [flatR], rfl⟩
  | r :: rs, 0, all, e, h => ⟨[], all, rfl, e, rfl⟩
  | r :: rs, n + 1, all, e, h => by
    unfold flatR at e
    obtain ⟨ds, e1, e2⟩ := Option.bind_eq_some_iff.mp e
    obtain ⟨rest, e3, rfl⟩ := Option.map_eq_some_iff.mp e2
    obtain ⟨a, b, q1, q2, rfl⟩ := flatR_drop (n := n) e3 (by simpa using h)
    exact ⟨ds ++ a, b, by simp [flatR, e1, q1], q2, by simp⟩
theorem flat_sem {i j : Nat} (hij : i ≠ j) (si : SemI X Wx wi fi) : SemE X Wx (tLc2 wi (gName i) tYes (iAny X.K (tVar i)) (gName j) tYes (tVar j) [i, j] [j]) (dFlat fi i j) := fun L G B H σ ρ Q s p => by
  refine si L G B H σ ρ _ s ((Post.bind p).imp fun ρ1 items G1 B1 H1 _ q s1 J src DD hD => ?_)
  by_cases no : (noOwnAt ρ1 [i, j] && (decide (i < ρ1.length) && decide (j < ρ1.length))) = true
  · rw [if_pos no] at q
    obtain ⟨no, hij2⟩ := Bool.and_eq_true_iff.mp no
    obtain ⟨hi, hj⟩ := Bool.and_eq_true_iff.mp hij2
    have hi := of_decide_eq_true hi
    have hj := of_decide_eq_true hj
    rw [← s1.len] at hi hj
    cases eF : flatR items with
    | none => rw [eF] at q; exact q.elim
    | some all =>
      rw [eF] at q
      unfold finFlat at q
      by_cases hl : all.length < 100000
      · simp only [if_pos hl] at q
        obtain ⟨Gd, Y, w, hG, hY⟩ := src
        have bD : B1 DD = none := none_of_ex s1.bh hD
        have gD : G1 DD = none := none_of_ex s1.gb bD
        have nD : NL L DD := s1.lb.nl bD
        let P : List D → Hp → Prop := fun accD H => ∃ G' B' acc, Grow G1 B1 G' B' ∧ B' DD = none ∧ G' DD = none ∧ Reps X.K G' accD acc ∧ OkS X.K L G' (upd B' DD (.lst acc)) H (wipe σ [i, j]) (wipeE ρ1 [i, j])
        have hPG : ∀ accD H, P accD H → Gd H := fun accD H ⟨G', B', acc, gr, b0, _, _, s'⟩ => hG H ((gr.bb.trans (Ex.new b0)).trans s'.bh)
        have fin : ∀ H, P all H → Q (.ref DD) H := fun H ⟨G2, B2, acc, gr, b0, g0, ra, s2⟩ => q G2 B2 H gr _ (.own g0 nD b0 (.lst ra) (.nil (by
          have s3 := s2.restored s1 (gr.gg s1.gb) no
          have e : restoreE ρ1 (wipeE ρ1 [i, j]) [i, j] = ρ1 := by
            refine List.ext_getElem? fun n => ?_
            by_cases hn : n ∈ [i, j]
            · cases hx : (restoreE ρ1 (wipeE ρ1 [i, j]) [i, j])[n]? with
              | none =>
                have := List.getElem?_eq_none_iff.mp hx
                rw [restoreE_length, wipeE_length] at this
                rw [List.getElem?_eq_none this]
              | some x =>
                have h1 := restoreE_in hn hx
                have hlt : n < ρ1.length := by
                  have := (List.getElem?_eq_some_iff.mp hx).1
                  rw [restoreE_length, wipeE_length] at this
                  exact this
                rw [h1, List.getD_eq_getElem?_getD, List.getElem?_eq_getElem hlt]
                rfl
            · rw [restoreE_out hn, wipeE_out hn]
          rw [e] at s3
          exact s3)))
        refine ⟨fun n m H => m = items.length - n ∧ n ≤ items.length ∧ ∃ accD, flatR (items.take n) = some accD ∧ P accD H, ⟨items.length, by simp, Nat.zero_le _, [], by simp [flatR], G1, B1, [], .refl, bD, gD, .nil, (s1.new hD).wiped⟩, ?_⟩
        rintro n m H2 ⟨rfl, hn, accD, eA, hP⟩
        by_cases hlt : n < items.length
        · have hnext : ∃ ds, lstR items[n] = some ds ∧ flatR (items.take (n + 1)) = some (accD ++ ds) ∧ (accD ++ ds).length ≤ all.length := by
            obtain ⟨a, b, q1, q2, q3⟩ := flatR_drop (n := n + 1) eF hlt
            obtain ⟨a', b', q1', q2', q3'⟩ := flatR_drop (n := n) eF hn
            rw [eA] at q1'
            cases q1'
            rw [List.drop_eq_getElem_cons hlt] at q2'
            unfold flatR at q2'
            obtain ⟨ds, e1, e2⟩ := Option.bind_eq_some_iff.mp q2'
            obtain ⟨rest, e3, rfl⟩ := Option.map_eq_some_iff.mp e2
            rw [q2] at e3
            cases e3
            have : a = accD ++ ds := by
              have : a ++ b = accD ++ ds ++ b := by rw [← q3, q3', List.append_assoc]
              exact List.append_cancel_right this
            subst this
            exact ⟨ds, e1, q1, by rw [q3]; simp⟩
          obtain ⟨ds, eds, eNext, hle⟩ := hnext
          refine .inr ⟨w.goes n H2 hlt (hPG _ _ hP), P (accD ++ ds), fun H' p' => ⟨items.length - (n + 1), by omega, rfl, hlt, _, eNext, p'⟩, fun x H2' y => ?_⟩
          have y := w.yields n H2 x H2' hlt (hPG _ _ hP) y
          obtain ⟨G2, B2, acc, gr, b0, g0', ra, s2⟩ := hP
          have gr2 : Grow G1 B1 G2 (upd B2 DD (.lst acc)) := gr.trans ⟨Ex.new b0, fun _ _ _ => rfl⟩
          obtain ⟨G3, B3, g3, k3⟩ := hY n items[n] G2 _ H2 (wipe σ [i, j]) (wipeE ρ1 [i, j]) x H2' (List.getElem?_eq_getElem hlt) gr2 s2 y
          have eit : items[n] = .fz (.lst ds) := by
            cases hit : items[n] with
            | fz d =>
              rw [hit] at eds
              cases d <;> simp only [lstR, reduceCtorEq, Option.some.injEq] at eds
              rw [eds]
            | own d => rw [hit] at eds; cases eds
            | bor k => rw [hit] at eds; cases eds
            | tp qs => rw [hit] at eds; cases eds
          rw [eit] at k3
          obtain ⟨rx, k4⟩ := k3.fzI
          have s4 := k4.state
          have st : Stay [i] (wipe σ [i, j]) ((wipe σ [i, j]).set i (some x)) := Stay.one
          refine ⟨wipe_stay st (by simp), ?_⟩
          simp only [tYes, if_true]
          cases rx with
          | @lst a _ xs ha rr =>
          have hvi : ((wipe σ [i, j]).set i (some (V.ref a)))[i]? = some (some (V.ref a)) := List.getElem?_set_self (by rw [wipe_length]; exact hi)
          refine ⟨.ref a, hvi, .inl ⟨a, xs, rfl, (ha.mono s4.gh).sql, ?_⟩⟩
          have hB3 : B3 DD = some (.lst acc) := g3.bb DD _ upd_same
          have hG3 : G3 DD = none := (g3.fr DD _ upd_same).trans g0'
          -- the list so far, its object at DD
          let P1 : Nat → Hp → Prop := fun k H => ∃ acc', Reps X.K G3 (accD ++ ds.take k) acc' ∧ OkS X.K L G3 (upd B3 DD (.lst acc')) H (wipe σ [i, j]) (wipeE ρ1 [i, j])
          have rA : Reps X.K G3 accD acc := ra.mono (g3.gg s2.gb)
          have hxl : xs.length = ds.length := rr.length
          have toP : ∀ H, P1 xs.length H → P (accD ++ ds) H := fun H ⟨acc', r', s'⟩ => by
            rw [hxl, List.take_length] at r'
            refine ⟨G3, del B3 DD, acc', gr.trans ⟨ex_del g3.bb b0, fun a u ha => g3.fr a u (by rw [upd_ne (ne_of_none ha b0)]; exact ha)⟩, del_same, hG3, r', ?_⟩
            have e : upd (del B3 DD) DD (.lst acc') = upd B3 DD (.lst acc') := by
              funext a
              by_cases h : a = DD
              · subst h; rw [upd_same, upd_same]
              · rw [upd_ne h, upd_ne h, del_ne h]
            rw [e]
            exact s'
          have hsq : ∀ {acc' : List V} {H : Hp}, OkS X.K L G3 (upd B3 DD (.lst acc')) H (wipe σ [i, j]) (wipeE ρ1 [i, j]) → SqL X.K H a xs := fun {acc' H} s' => (ha.mono (s'.gb.trans s'.bh)).sql
          have wl := walk_list (K := X.K) (a := a) (xs := xs)
          refine ⟨fun k m H => m = xs.length - k ∧ k ≤ xs.length ∧ P1 k H, ⟨xs.length, by simp, Nat.zero_le _, acc, by simpa using rA, ?_⟩, ?_⟩
          · have e : upd B3 DD (.lst acc) = B3 := by
              funext a
              by_cases h : a = DD
              · subst h; rw [upd_same, hB3]
              · rw [upd_ne h]
            rw [e]
            exact s4
          · rintro k m H5 ⟨rfl, hk, acc', r', s'⟩
            by_cases hk2 : k < xs.length
            · refine .inr ⟨wl.goes k H5 hk2 (hsq s'), P1 (k + 1), fun H' p' => ⟨xs.length - (k + 1), by omega, rfl, hk2, p'⟩, fun z H6 y6 => ?_⟩
              obtain ⟨rfl, hz⟩ := wl.yields k H5 z H6 hk2 (hsq s') y6
              have st3 : Stay [j] (wipe ((wipe σ [i, j]).set i (some (V.ref a))) [j]) ((wipe ((wipe σ [i, j]).set i (some (V.ref a))) [j]).set j (some z)) := Stay.one
              refine ⟨wipe_stay st3 (by simp), ?_⟩
              refine ⟨z, List.getElem?_set_self (by rw [wipe_length, List.length_set, wipe_length]; exact hj), acc', s'.bh DD _ upd_same, ?_, acc' ++ [z], ?_, ?_⟩
              · have h1 := r'.length
                simp only [List.length_append, List.length_take] at h1 hle
                have : acc'.length < 100000 := by omega
                exact Nat.lt_of_lt_of_le this (by rw [sizeLine_eq]; decide)
              · obtain ⟨d, hd, rd⟩ := rr.getV hz
                have : ds.take (k + 1) = ds.take k ++ [d] := by
                  rw [List.take_succ, hd]
                  rfl
                rw [this, ← List.append_assoc]
                exact r'.append (.cons (rd.mono (Ex.refl _)) .nil)
              · have s7 := s'.rewrite (o' := .lst (acc' ++ [z])) upd_same hG3 nD
                have e : upd (upd B3 DD (.lst acc')) DD (.lst (acc' ++ [z])) = upd B3 DD (.lst (acc' ++ [z])) := upd_upd
                rw [e] at s7
                exact s7
            · have ek : k = xs.length := by omega
              subst ek
              exact .inl ⟨wl.stops H5 (hsq s'), toP H5 ⟨acc', r', s'⟩⟩
        · have e : n = items.length := by omega
          subst e
          rw [List.take_length, eF] at eA
          cases eA
          exact .inl ⟨w.stops H2 (hPG _ _ hP), fin H2 hP⟩
      · simp only [if_neg hl] at q; exact q.elim
  · rw [if_neg no] at q; exact q.elim
theorem de_flat {x y : Str} {px py pz ppos : Pos} {iter : Expr} {pos : Pos} {scope : Scope} {i j : Nat} (hc : X.calm = true) (hN : X.N.Nodup) (hi : DI X Wx (.Name x px) iter wi fi) (ok : BlkOk X.N X.env.scope scope [(x, i), (y, j)]) (hij : i ≠ j)
    (hg : Blk X scope fun Y => DG Y [i] (.Name x px) (gName i) (store i)) (hg1 : Blk X scope fun Y => DG Y [j] (.Name y py) (gName j) (store j))
    (hv : Blk X scope fun Y => PE Y (.Name x pz) (tVar i)) (hw : Blk X scope fun Y => PE Y (.Name y ppos) (tVar j))
    (hs : ∀ x, foldedSetIterable iter X.env x = pure x := by intro _; rfl) (hs1 : ∀ env v, foldedSetIterable (.Name x pz) env v = pure v := by intro _ _; rfl) :
    DE X Wx (.ListComp (.Name y ppos) [⟨.Name x px, iter, [], 0⟩, ⟨.Name y py, .Name x pz, [], 0⟩] scope pos) (tLc2 wi (gName i) tYes (iAny X.K (tVar i)) (gName j) tYes (tVar j) [i, j] [j]) (dFlat fi i j) :=
  ⟨pe_lc2 hc hN hi.1 ok (vs1 := [j]) (by simp) (fun s H C cl fp => (hg s H C cl fp).1) (fun s H C cl fp => pts_nil) (fun s H C cl fp => pi_any (hv s H C cl fp)) (fun s H C cl fp => (hg1 s H C cl fp).1) (fun s H C cl fp => pts_nil) (fun s H C cl fp => hw s H C cl fp) hs hs1, flat_sem hij hi.2⟩
end
end DN
namespace L2
open PySem PySem.W PySem.Spec PyProof.Rows
/-- sorted(xs) of data alike -/
def rSortD (K : PySem.W.Frag) : List V → Hp → VK → Prop := fun xs H Q => ∃ (a : Addr) (vs : List V) (ps : List PyData), xs = [.ref a] ∧ SqL K H a vs ∧ DpAll K H vs ps ∧ PySem.W.AllAlike ps ∧ PySem.W.Sortable ps ∧ (∀ p ∈ ps, p.depth ≤ 60) ∧
  ∀ p, H p = none → Q (.ref p) (upd H p (.lst (((vs.zip ps).mergeSort (PySem.W.dataLe false Prod.snd)).map Prod.fst)))
theorem DpAll.len {K : PySem.W.Frag} {H : Hp} : ∀ {vs : List V} {ps : List PyData}, DpAll K H vs ps → vs.length = ps.length
  | _, _, .nil => rfl
  | _, _, .cons _ h => by rw [List.length_cons, List.length_cons, h.len]
theorem each_vals : ∀ {vs : List V} {us : List Value} {ps : List PyData}, Vals vs us → vs.length = ps.length → EachIs (fun u (b : V × PyData) => RelV b.1 u) us (vs.zip ps)
  | [], us, [], r, _ => by cases r; exact .nil
  | [], _, _ :: _, _, h => by simp at h
  | _ :: _, _, [], _, h => by simp at h
  | v :: vs, us, p :: ps, r, h => by
    cases r with
    | cons h1 h2 => exact .cons h1 (each_vals h2 (by simpa using h))
theorem each_reads {h : Heap} : ∀ {vs : List V} {us : List Value} {ps : List PyData} {as : List Addr}, vs.length = ps.length → ReadsAll h us ps as → EachIs (fun u (b : V × PyData) => ∃ as, Reads h u b.2 as) us (vs.zip ps)
  | [], us, [], _, _, r => by cases r; exact .nil
  | [], _, _ :: _, _, h, _ => by simp at h
  | _ :: _, _, [], _, h, _ => by simp at h
  | v :: vs, us, p :: ps, _, h, r => by
    cases r with
    | cons h1 h2 => exact .cons ⟨_, h1⟩ (each_reads (by simpa using h) h2)
theorem vals_each : ∀ {us : List Value} {bs : List (V × PyData)}, EachIs (fun u (b : V × PyData) => RelV b.1 u) us bs → Vals (bs.map Prod.fst) us
  | _, _, .nil => .nil
  | _, _, .cons h1 h2 => .cons h1 (vals_each h2)
theorem zip_snd : ∀ {vs : List V} {ps : List PyData}, vs.length = ps.length → (vs.zip ps).map Prod.snd = ps
  | [], [], _ => rfl
  | [], _ :: _, h => by simp at h
  | _ :: _, [], h => by simp at h
  | v :: vs, p :: ps, h => by
    rw [List.zip_cons_cons, List.map_cons, zip_snd (by simpa using h)]
theorem cr_sortD {X : Cx} (hu : X.A.units + 66 < cLine) : CallR X (.builtin "sorted") (rSortD X.K) := by
  intro pins s σ H vs us Q I r h
  obtain ⟨a, ws, ps, rfl, hs, hd, hal, hk, hdep, q⟩ := h
  obtain ⟨its, rv, hl, hz⟩ := I.list hs
  rw [Vals.ref1 r]
  obtain ⟨as, hr⟩ := Dp.readsAll I ps ws its hd rv
  have hlen := hd.len
  have hm := zip_snd hlen
  have hzl : (ws.zip ps).length = ws.length := by rw [List.length_zip, hlen, Nat.min_self]
  refine sorted_data (bs := ws.zip ps) (enc := Prod.snd) (R := fun u (b : V × PyData) => RelV b.1 u) hl.isList (each_vals rv hlen) (each_reads hlen hr) (by rw [hm]; exact hal) (by rw [hm]; exact hk) (by rw [hzl]; exact hz)
    (fun b hb => by
      have : b.2 ∈ ps := by rw [← hm]; exact List.mem_map.mpr ⟨b, hb, rfl⟩
      have := hdep _ this
      omega) fun out ho eo => ?_
  obtain ⟨ep, he'⟩ := PyProof.Rows.sortedAll_at s.heap its out.toArray
  have hv := vals_each eo
  have hlen2 : (((ws.zip ps).mergeSort (dataLe false Prod.snd)).map Prod.fst).length ≤ sizeLine := by
    rw [hv.length, ho, hzl]
    exact hz
  exact ⟨.ref _, upd H (s.heap.objs.size + 1) (.lst (((ws.zip ps).mergeSort (dataLe false Prod.snd)).map Prod.fst)), I.laid (t' := s.toks) (fun _ _ => PyProof.Rows.sortedAll_old) (Nat.le_succ _) ⟨hlen2, out, ep, hv, he'⟩, rfl, q _ (I.hok.fresh (Nat.le_succ _))⟩
end L2
namespace DN
open PySem PySem.W PySem.Spec PyProof.Rows L2
/-- of one kind, and none of them None -/
def alkB (ps : List PyData) : Bool := (ps.all fun p => ps.all fun q => alike p q) && ((ps.all fun p => match p with
  | .tuple (_ :: _) => true
  | _ => false) || (ps.all fun p => match p with
  | .none => false
  | .tuple _ => false
  | _ => true)) && ps.all fun p => decide (p.depth ≤ 60)
theorem alkB_out {ps : List PyData} (h : alkB ps = true) : PySem.W.AllAlike ps ∧ PySem.W.Sortable ps ∧ ∀ p ∈ ps, p.depth ≤ 60 := by
  unfold alkB at h
  rw [Bool.and_eq_true, Bool.and_eq_true, Bool.or_eq_true] at h
  obtain ⟨⟨h1, h2⟩, h3⟩ := h
  refine ⟨fun d hd d' hd' => ?_, ?_, fun p hp => by simpa using List.all_eq_true.mp h3 p hp⟩
  · have := List.all_eq_true.mp h1 d hd
    exact List.all_eq_true.mp this d' hd'
  · rcases h2 with h2 | h2
    · refine .inl fun d hd => ?_
      have := List.all_eq_true.mp h2 d hd
      cases d with
      | tuple xs => cases xs with
        | nil => simp at this
        | cons x r => exact ⟨x, r, rfl⟩
      | _ => simp at this
    · refine .inr fun d hd => ?_
      have := List.all_eq_true.mp h2 d hd
      cases d <;> simp at this <;> exact ⟨by simp, by simp⟩
/-- sorted of data alike -/
def sortDD (ds : List D) (ps : List PyData) : List D := ((ds.zip ps).mergeSort (PySem.W.dataLe false Prod.snd)).map Prod.fst
def gSortD : List D → Option R
  | [.lst ds] => (pys ds).bind fun ps => if alkB ps = true then some (.own (.lst (sortDD ds ps))) else none
  | _ => none
section
variable {K : PySem.W.Frag} {G : Hp}
theorem reps_of {Z : List (D × V × PyData)} (h : ∀ z ∈ Z, Rep K G z.1 z.2.1) : Reps K G (Z.map (·.1)) (Z.map (·.2.1)) := by
  induction Z with
  | nil => exact .nil
  | cons z Z ih => exact .cons (h z List.mem_cons_self) (ih fun y hy => h y (List.mem_cons_of_mem _ hy))
theorem zip3 : ∀ {ds : List D} {vs : List V} {ps : List PyData}, Reps K G ds vs → vs.length = ps.length → (∀ z ∈ ds.zip (vs.zip ps), Rep K G z.1 z.2.1) ∧ (ds.zip (vs.zip ps)).map (fun z => (z.1, z.2.2)) = ds.zip ps ∧ (ds.zip (vs.zip ps)).map (fun z => (z.2.1, z.2.2)) = vs.zip ps
  | _, _, [], .nil, _ => ⟨fun z hz => by simp at hz, rfl, rfl⟩
  | _, _, _ :: _, .nil, h => by simp at h
  | _, _, [], .cons _ _, h => by simp at h
  | d :: ds, v :: vs, p :: ps, .cons h1 h2, h => by
    obtain ⟨k1, k2, k3⟩ := zip3 h2 (show vs.length = ps.length by simpa using h)
    rw [List.zip_cons_cons, List.zip_cons_cons, List.zip_cons_cons, List.map_cons, List.map_cons, k2, k3]
    refine ⟨fun z hz => ?_, rfl, rfl⟩
    rcases List.mem_cons.mp hz with rfl | hz
    · exact h1
    · exact k1 z hz
theorem zip3x {ds : List D} {vs : List V} {ps : List PyData} (r : Reps K G ds vs) (h : vs.length = ps.length) : ∃ Z : List (D × V × PyData), (∀ z ∈ Z, Rep K G z.1 z.2.1) ∧ Z.map (fun z => (z.1, z.2.2)) = ds.zip ps ∧ Z.map (fun z => (z.2.1, z.2.2)) = vs.zip ps := ⟨_, zip3 r h⟩
theorem s_sortD : CallSound K gSortD (rSortD K) := by
  intro G H ds vs z Q hG t e q
  unfold gSortD at e
  split at e
  · obtain ⟨v, rfl, t1⟩ := t.one_inv
    obtain ⟨ps, ep, e⟩ := Option.bind_eq_some_iff.mp e
    split at e
    · rename_i ha
      cases e
      cases t1 with
      | @lst a _ ws ha' r =>
      obtain ⟨a1, a2, a3⟩ := alkB_out ha
      have hd := Reps.dp (r.mono hG) ep
      have hlen := hd.len
      obtain ⟨Z, k1, k2, k3⟩ := zip3x r hlen
      refine ⟨_, ws, ps, rfl, ha'.sql, hd, a1, a2, a3, fun p hp => q p _ hp (.lst ?_)⟩
      unfold sortDD
      rw [← k2, ← k3]
      have e1 := sort_maps (r := PySem.W.dataLe false (fun z : D × V × PyData => z.2.2)) (s := PySem.W.dataLe false (Prod.snd : D × PyData → PyData)) (fun z : D × V × PyData => (z.1, z.2.2)) (l := Z) fun _ _ _ _ => rfl
      have e2 := sort_maps (r := PySem.W.dataLe false (fun z : D × V × PyData => z.2.2)) (s := PySem.W.dataLe false (Prod.snd : V × PyData → PyData)) (fun z : D × V × PyData => (z.2.1, z.2.2)) (l := Z) fun _ _ _ _ => rfl
      rw [← e1, ← e2, List.map_map, List.map_map]
      exact reps_of fun z hz => k1 z ((List.mergeSort_perm _ _).mem_iff.mp hz)
    · cases e
  · cases e
end
end DN
namespace DN
open PySem PySem.Spec PyProof.Rows L2
/-- an exception class of the program without an __init__ of its own -/
structure ExF (K : PySem.W.Frag) (mg : Str → Option Value) (x : Str) : Prop where
  gl : mg x = some (.ref (He.ga K x))
  ex : PySem.W.excIn K (He.ga K x) He.veBase "ValueError.__new__" = true
  kp : PySem.W.keepIn K (.ref (He.ga K x)) = true
  sb : PySem.W.subIn K (.ref (He.ga K x)) (.type "BaseException") = some true
  ty : PySem.W.typeIn K (.ref (He.ga K x)) = some (.type "type")
theorem ExF.mk2 {K : PySem.W.Frag} {mg : Str → Option Value} {x : Str} (a : mg x = some (.ref (He.ga K x))) (h : PySem.W.excIn K (He.ga K x) He.veBase "ValueError.__new__" = true ∧ PySem.W.keepIn K (.ref (He.ga K x)) = true ∧ PySem.W.subIn K (.ref (He.ga K x)) (.type "BaseException") = some true ∧
    PySem.W.typeIn K (.ref (He.ga K x)) = some (.type "type")) : ExF K mg x := ⟨a, h.1, h.2.1, h.2.2.1, h.2.2.2⟩
def dRaise (x : Str) : Env → O Fl := fun ρ => .er ρ ⟨x, []⟩
section
variable {X : Cx} {Wx : WX} {x m : Str} {j : Nat} {p p2 p3 p4 : Pos}
theorem ds_raise (e : ExF X.K X.mg x) (hc : X.calm = true) (tk : Takes X Wx) (hg : Gl X x) (hdb : (x == ("__debug__" : Str)) = false := by decide) :
    DS X Wx [] (.Raise (some (.Call (.Name x p) [.Constant (.str m) j p2] [] p3)) none p4) (fun _ σ H => Wx (.ref (He.ga X.K x)) none σ H) (dRaise x) :=
  ⟨ps_raise hc tk (pmk_own PySem.F.excBase_ValueError e.ex e.gl e.kp (raises_own e.sb e.ty) hg hdb),
    fun L G B H σ ρ D s p => p G B H σ _ _ .refl .refl s ⟨rfl, .inl ⟨rfl, rfl⟩⟩⟩
end
end DN
namespace DN
@[simp] def zs_env0_1 := fun x0 x1 x2 => nr (@DN.env0.eq_1 x0 x1 x2)
@[simp] def zs_slotM_1 := fun x0 => nr (@DN.slotM.eq_1 x0)
@[simp] def zs_slotM_2 := fun x0 => nr (@DN.slotM.eq_2 x0)
@[simp] def zs_slotM_3 := fun x0 => nr (@DN.slotM.eq_3 x0)
@[simp] def zs_dSeq_1 := fun x0 x1 (s2 : Sl) (t2 : List Sl) => nr (@DN.dSeq.eq_1 x0 x1 (s2 :: t2))
@[simp] def zs_dIfS_1 := fun x0 x1 x2 (s3 : Sl) (t3 : List Sl) => nr (@DN.dIfS.eq_1 x0 x1 x2 (s3 :: t3))
@[simp] def zs_dOr_1 := fun x0 x1 (s2 : Sl) (t2 : List Sl) => nr (@DN.dOr.eq_1 x0 x1 (s2 :: t2))
@[simp] def zs_dAnd_1 := fun x0 x1 (s2 : Sl) (t2 : List Sl) => nr (@DN.dAnd.eq_1 x0 x1 (s2 :: t2))
@[simp] def zs_dNot_1 := fun x0 (s1 : Sl) (t1 : List Sl) => nr (@DN.dNot.eq_1 x0 (s1 :: t1))
@[simp] def zs_dConsN_1 := fun x0 x1 => nr (@DN.dConsN.eq_1 x0 x1)
@[simp] def zs_dCons_1 := fun x0 x1 (s2 : Sl) (t2 : List Sl) => nr (@DN.dCons.eq_1 x0 x1 (s2 :: t2))
@[simp] def zs_dN_1 := fun x0 (s1 : Sl) (t1 : List Sl) => nr (@DN.dN.eq_1 x0 (s1 :: t1))
@[simp] def zs_dVar_1 := fun x0 (s1 : Sl) (t1 : List Sl) => nr (@DN.dVar.eq_1 x0 (s1 :: t1))
@[simp] def zs_getD_1 := fun (s0 : Sl) (t0 : List Sl) x1 => nr (@DN.getD.eq_1 (s0 :: t0) x1)
@[simp] def zs_slD_1 := nr (@DN.slD.eq_1)
@[simp] def zs_slD_2 := fun x0 => nr (@DN.slD.eq_2 x0)
@[simp] def zs_slD_3 := fun x0 => nr (@DN.slD.eq_3 x0)
@[simp] def zs_slD_4 := fun x0 => nr (@DN.slD.eq_4 x0)
@[simp] def zs_untp_1 := fun (s0 : Sl) (t0 : List Sl) x1 => nr (@DN.untp.eq_1 (s0 :: t0) x1)
@[simp] def zs_untp_2 := fun (s0 : Sl) (t0 : List Sl) x1 x2 => nr (@DN.untp.eq_2 (s0 :: t0) x1 x2)
@[simp] def zs_usesR_1 := fun (s0 : Sl) (t0 : List Sl) => nr (@DN.usesR.eq_1 (s0 :: t0))
@[simp] def zs_usesR_2 := fun (s0 : Sl) (t0 : List Sl) x1 x2 => nr (@DN.usesR.eq_2 (s0 :: t0) x1 x2)
@[simp] def zs_useR_1 := fun (s0 : Sl) (t0 : List Sl) x1 => nr (@DN.useR.eq_1 (s0 :: t0) x1)
@[simp] def zs_useR_2 := fun (s0 : Sl) (t0 : List Sl) x1 => nr (@DN.useR.eq_2 (s0 :: t0) x1)
@[simp] def zs_useR_3 := fun (s0 : Sl) (t0 : List Sl) x1 => nr (@DN.useR.eq_3 (s0 :: t0) x1)
@[simp] def zs_useR_4 := fun (s0 : Sl) (t0 : List Sl) x1 => nr (@DN.useR.eq_4 (s0 :: t0) x1)
@[simp] def zs_dC_1 := fun x0 (s1 : Sl) (t1 : List Sl) => nr (@DN.dC.eq_1 x0 (s1 :: t1))
@[simp] def zs_dNil_1 := fun (s0 : Sl) (t0 : List Sl) => nr (@DN.dNil.eq_1 (s0 :: t0))
@[simp] def zs_gIsi_1 := fun x0 x1 => nr (@DN.gIsi.eq_1 x0 x1)
@[simp] def zs_gIsi_2 := fun x0 x1 => nr (@DN.gIsi.eq_2 x0 x1)
@[simp] def zs_tyN_1 := nr (@DN.tyN.eq_1)
@[simp] def zs_tyN_2 := fun x0 => nr (@DN.tyN.eq_2 x0)
@[simp] def zs_tyN_3 := fun x0 => nr (@DN.tyN.eq_3 x0)
@[simp] def zs_tyN_4 := fun x0 => nr (@DN.tyN.eq_4 x0)
@[simp] def zs_tyN_5 := fun x0 => nr (@DN.tyN.eq_5 x0)
@[simp] def zs_tyN_6 := fun x0 => nr (@DN.tyN.eq_6 x0)
@[simp] def zs_tyN_7 := fun x0 => nr (@DN.tyN.eq_7 x0)
@[simp] def zs_tyN_8 := fun x0 x1 x2 x3 x4 x5 x6 x7 => nr (@DN.tyN.eq_8 x0 x1 x2 x3 x4 x5 x6 x7)
@[simp] def zs_ret_1 := fun (s0 : Sl) (t0 : List Sl) x1 => nr (@DN.ret.eq_1 (s0 :: t0) x1)
@[simp] def zs_ret_2 := fun (s0 : Sl) (t0 : List Sl) x1 => nr (@DN.ret.eq_2 (s0 :: t0) x1)
@[simp] def zs_ret_3 := fun (s0 : Sl) (t0 : List Sl) x1 x2 x3 => nr (@DN.ret.eq_3 (s0 :: t0) x1 x2 x3)
@[simp] def zs_truD_1 := nr (@DN.truD.eq_1)
@[simp] def zs_truD_2 := fun x0 => nr (@DN.truD.eq_2 x0)
@[simp] def zs_truD_3 := fun x0 => nr (@DN.truD.eq_3 x0)
@[simp] def zs_truD_4 := fun x0 => nr (@DN.truD.eq_4 x0)
@[simp] def zs_truD_5 := fun x0 => nr (@DN.truD.eq_5 x0)
@[simp] def zs_truD_6 := fun x0 => nr (@DN.truD.eq_6 x0)
@[simp] def zs_truD_7 := fun x0 x1 x2 x3 x4 x5 x6 => nr (@DN.truD.eq_7 x0 x1 x2 x3 x4 x5 x6)
@[simp] def zs_dRet_1 := fun x0 (s1 : Sl) (t1 : List Sl) => nr (@DN.dRet.eq_1 x0 (s1 :: t1))
@[simp] def zs_dNext_1 := fun (s0 : Sl) (t0 : List Sl) => nr (@DN.dNext.eq_1 (s0 :: t0))
@[simp] def zs_dAndV_1 := fun x0 x1 (s2 : Sl) (t2 : List Sl) => nr (@DN.dAndV.eq_1 x0 x1 (s2 :: t2))
@[simp] def zs_dOrV_1 := fun x0 x1 (s2 : Sl) (t2 : List Sl) => nr (@DN.dOrV.eq_1 x0 x1 (s2 :: t2))
@[simp] def zs_dNotV_1 := fun x0 (s1 : Sl) (t1 : List Sl) => nr (@DN.dNotV.eq_1 x0 (s1 :: t1))
@[simp] def zs_dOp_1 := fun x0 x1 x2 (s3 : Sl) (t3 : List Sl) => nr (@DN.dOp.eq_1 x0 x1 x2 (s3 :: t3))
@[simp] def zs_dUn_1 := fun x0 x1 (s2 : Sl) (t2 : List Sl) => nr (@DN.dUn.eq_1 x0 x1 (s2 :: t2))
@[simp] def zs_dIf_1 := fun x0 x1 x2 (s3 : Sl) (t3 : List Sl) => nr (@DN.dIf.eq_1 x0 x1 x2 (s3 :: t3))
@[simp] def zs_use1_1 := fun (s0 : Sl) (t0 : List Sl) x1 => nr (@DN.use1.eq_1 (s0 :: t0) x1)
@[simp] def zs_isNon_1 := nr (@DN.isNon.eq_1)
@[simp] def zs_isNon_2 := fun x0 x1 => nr (@DN.isNon.eq_2 x0 x1)
@[simp] def zs_gIsN_1 := fun x0 x1 => nr (@DN.gIsN.eq_1 x0 x1)
@[simp] def zs_gNotN_1 := fun x0 x1 => nr (@DN.gNotN.eq_1 x0 x1)
@[simp] def zs_orE_1 := fun x0 x1 x2 x3 x4 => nr (@DN.orE.eq_1 x0 x1 x2 x3 x4)
@[simp] def zs_outsOf_1 := fun (s0 : Sl) (t0 : List Sl) x1 => nr (@DN.outsOf.eq_1 (s0 :: t0) x1)
@[simp] def zs_outsOf_2 := fun (s0 : Sl) (t0 : List Sl) x1 x2 => nr (@DN.outsOf.eq_2 (s0 :: t0) x1 x2)
@[simp] def zs_outsOf_3 := fun (s0 : Sl) (t0 : List Sl) x1 x2 x3 x4 => nr (@DN.outsOf.eq_3 (s0 :: t0) x1 x2 x3 x4)
@[simp] def zs_closeR_1 := fun (s0 : Sl) (t0 : List Sl) x1 => nr (@DN.closeR.eq_1 (s0 :: t0) x1)
@[simp] def zs_closeR_2 := fun (s0 : Sl) (t0 : List Sl) x1 x2 => nr (@DN.closeR.eq_2 (s0 :: t0) x1 x2)
@[simp] def zs_dAsg_1 := fun x0 x1 (s2 : Sl) (t2 : List Sl) => nr (@DN.dAsg.eq_1 x0 x1 (s2 :: t2))
@[simp] def zs_store_1 := fun x0 (s1 : Sl) (t1 : List Sl) x2 => nr (@DN.store.eq_1 x0 (s1 :: t1) x2)
@[simp] def zs_store_2 := fun x0 (s1 : Sl) (t1 : List Sl) x2 => nr (@DN.store.eq_2 x0 (s1 :: t1) x2)
@[simp] def zs_store_3 := fun x0 (s1 : Sl) (t1 : List Sl) x2 => nr (@DN.store.eq_3 x0 (s1 :: t1) x2)
@[simp] def zs_store_4 := fun x0 (s1 : Sl) (t1 : List Sl) x2 => nr (@DN.store.eq_4 x0 (s1 :: t1) x2)
@[simp] def zs_storeE_1 := fun x0 x1 x2 => nr (@DN.storeE.eq_1 x0 x1 x2)
@[simp] def zs_storeE_2 := fun x0 => nr (@DN.storeE.eq_2 x0)
@[simp] def zs_dDrop_1 := fun x0 (s1 : Sl) (t1 : List Sl) => nr (@DN.dDrop.eq_1 x0 (s1 :: t1))
@[simp] def zs_esc_1 := fun (s0 : Sl) (t0 : List Sl) x1 => nr (@DN.esc.eq_1 (s0 :: t0) x1)
@[simp] def zs_escs_1 := fun (s0 : Sl) (t0 : List Sl) x1 => nr (@DN.escs.eq_1 (s0 :: t0) x1)
@[simp] def zs_escR_1 := fun (s0 : Sl) (t0 : List Sl) x1 => nr (@DN.escR.eq_1 (s0 :: t0) x1)
@[simp] def zs_escR_2 := fun (s0 : Sl) (t0 : List Sl) x1 => nr (@DN.escR.eq_2 (s0 :: t0) x1)
@[simp] def zs_escR_3 := fun (s0 : Sl) (t0 : List Sl) x1 => nr (@DN.escR.eq_3 (s0 :: t0) x1)
@[simp] def zs_escR_4 := fun (s0 : Sl) (t0 : List Sl) x1 => nr (@DN.escR.eq_4 (s0 :: t0) x1)
@[simp] def zs_escRs_1 := fun (s0 : Sl) (t0 : List Sl) => nr (@DN.escRs.eq_1 (s0 :: t0))
@[simp] def zs_escRs_2 := fun (s0 : Sl) (t0 : List Sl) x1 x2 => nr (@DN.escRs.eq_2 (s0 :: t0) x1 x2)
@[simp] def zs_dLst_1 := fun x0 (s1 : Sl) (t1 : List Sl) => nr (@DN.dLst.eq_1 x0 (s1 :: t1))
@[simp] def zs_dTup_1 := fun x0 (s1 : Sl) (t1 : List Sl) => nr (@DN.dTup.eq_1 x0 (s1 :: t1))
@[simp] def zs_dE_1 := fun x0 (s1 : Sl) (t1 : List Sl) => nr (@DN.dE.eq_1 x0 (s1 :: t1))
@[simp] def zs_dCall_1 := fun x0 x1 x2 x3 (s4 : Sl) (t4 : List Sl) => nr (@DN.dCall.eq_1 x0 x1 x2 x3 (s4 :: t4))
@[simp] def zs_passA_1 := fun (s0 : Sl) (t0 : List Sl) => nr (@DN.passA.eq_1 (s0 :: t0))
@[simp] def zs_passA_2 := fun (s0 : Sl) (t0 : List Sl) x1 x2 x3 x4 => nr (@DN.passA.eq_2 (s0 :: t0) x1 x2 x3 x4)
@[simp] def zs_passA_3 := fun (s0 : Sl) (t0 : List Sl) x1 x2 x3 x4 => nr (@DN.passA.eq_3 (s0 :: t0) x1 x2 x3 x4)
@[simp] def zs_passB_1 := fun (s0 : Sl) (t0 : List Sl) => nr (@DN.passB.eq_1 (s0 :: t0))
@[simp] def zs_passB_2 := fun (s0 : Sl) (t0 : List Sl) x1 x2 x3 => nr (@DN.passB.eq_2 (s0 :: t0) x1 x2 x3)
@[simp] def zs_passB_3 := fun (s0 : Sl) (t0 : List Sl) x1 x2 x3 => nr (@DN.passB.eq_3 (s0 :: t0) x1 x2 x3)
@[simp] def zs_passB_4 := fun (s0 : Sl) (t0 : List Sl) x1 x2 x3 x4 x5 => nr (@DN.passB.eq_4 (s0 :: t0) x1 x2 x3 x4 x5)
@[simp] def zs_passB_5 := fun (s0 : Sl) (t0 : List Sl) x1 x2 x3 x4 x5 => nr (@DN.passB.eq_5 (s0 :: t0) x1 x2 x3 x4 x5)
@[simp] def zs_passB_6 := fun (s0 : Sl) (t0 : List Sl) x1 x2 x3 x4 x5 => nr (@DN.passB.eq_6 (s0 :: t0) x1 x2 x3 x4 x5)
@[simp] def zs_isTp_1 := fun x0 => nr (@DN.isTp.eq_1 x0)
@[simp] def zs_isTp_2 := fun x0 x1 => nr (@DN.isTp.eq_2 x0 x1)
@[simp] def zs_ioOk_1 := fun x0 x1 => nr (@DN.ioOk.eq_1 x0 x1)
@[simp] def zs_putIO_1 := fun (s0 : Sl) (t0 : List Sl) x1 x2 x3 x4 x5 => nr (@DN.putIO.eq_1 (s0 :: t0) x1 x2 x3 x4 x5)
@[simp] def zs_putIO_2 := fun (s0 : Sl) (t0 : List Sl) x1 x2 x3 x4 x5 x6 => nr (@DN.putIO.eq_2 (s0 :: t0) x1 x2 x3 x4 x5 x6)
@[simp] def zs_putIO_3 := fun (s0 : Sl) (t0 : List Sl) x1 x2 x3 x4 x5 x6 x7 => nr (@DN.putIO.eq_3 (s0 :: t0) x1 x2 x3 x4 x5 x6 x7)
@[simp] def zs_putIO_4 := fun (s0 : Sl) (t0 : List Sl) x1 x2 x3 x4 x5 x6 => nr (@DN.putIO.eq_4 (s0 :: t0) x1 x2 x3 x4 x5 x6)
@[simp] def zs_unIO_1 := fun (s0 : Sl) (t0 : List Sl) x1 => nr (@DN.unIO.eq_1 (s0 :: t0) x1)
@[simp] def zs_ioSl_1 := fun x0 x1 x2 => nr (@DN.ioSl.eq_1 x0 x1 x2)
@[simp] def zs_ioSl_2 := fun x0 x1 x2 x3 x4 => nr (@DN.ioSl.eq_2 x0 x1 x2 x3 x4)
@[simp] def zs_ioSl_3 := fun x0 x1 x2 x3 => nr (@DN.ioSl.eq_3 x0 x1 x2 x3)
@[simp] def zs_lnSl_1 := fun x0 x1 x2 => nr (@DN.lnSl.eq_1 x0 x1 x2)
@[simp] def zs_lnSl_2 := fun x0 x1 x2 x3 x4 => nr (@DN.lnSl.eq_2 x0 x1 x2 x3 x4)
@[simp] def zs_lnSl_3 := fun x0 x1 x2 x3 => nr (@DN.lnSl.eq_3 x0 x1 x2 x3)
@[simp] def zs_ownAt_1 := fun (s0 : Sl) (t0 : List Sl) x1 => nr (@DN.ownAt.eq_1 (s0 :: t0) x1)
@[simp] def zs_dAug_1 := fun x0 x1 x2 (s3 : Sl) (t3 : List Sl) => nr (@DN.dAug.eq_1 x0 x1 x2 (s3 :: t3))
@[simp] def zs_dPar_1 := fun x0 x1 (s2 : Sl) (t2 : List Sl) => nr (@DN.dPar.eq_1 x0 x1 (s2 :: t2))
@[simp] def zs_partsR_1 := fun (s0 : Sl) (t0 : List Sl) x1 => nr (@DN.partsR.eq_1 (s0 :: t0) x1)
@[simp] def zs_partsR_2 := fun (s0 : Sl) (t0 : List Sl) x1 x2 => nr (@DN.partsR.eq_2 (s0 :: t0) x1 x2)
@[simp] def zs_settle_1 := fun (s0 : Sl) (t0 : List Sl) => nr (@DN.settle.eq_1 (s0 :: t0))
@[simp] def zs_settle_2 := fun (s0 : Sl) (t0 : List Sl) x1 x2 => nr (@DN.settle.eq_2 (s0 :: t0) x1 x2)
@[simp] def zs_settle_3 := fun (s0 : Sl) (t0 : List Sl) x1 x2 => nr (@DN.settle.eq_3 (s0 :: t0) x1 x2)
@[simp] def zs_settle_4 := fun (s0 : Sl) (t0 : List Sl) x1 x2 x3 x4 => nr (@DN.settle.eq_4 (s0 :: t0) x1 x2 x3 x4)
@[simp] def zs_sets_1 := fun (s0 : Sl) (t0 : List Sl) x1 x2 x3 x4 => nr (@DN.sets.eq_1 (s0 :: t0) x1 x2 x3 x4)
@[simp] def zs_sets_2 := fun (s0 : Sl) (t0 : List Sl) x1 x2 x3 => nr (@DN.sets.eq_2 (s0 :: t0) x1 x2 x3)
@[simp] def zs_isLst_1 := fun x0 => nr (@DN.isLst.eq_1 x0)
@[simp] def zs_isLst_2 := fun x0 x1 => nr (@DN.isLst.eq_2 x0 x1)
@[simp] def zs_closeL_1 := fun (s0 : Sl) (t0 : List Sl) => nr (@DN.closeL.eq_1 (s0 :: t0))
@[simp] def zs_closeL_2 := fun (s0 : Sl) (t0 : List Sl) x1 x2 => nr (@DN.closeL.eq_2 (s0 :: t0) x1 x2)
@[simp] def zs_closeL_3 := fun (s0 : Sl) (t0 : List Sl) x1 x2 => nr (@DN.closeL.eq_3 (s0 :: t0) x1 x2)
@[simp] def zs_closeL_4 := fun (s0 : Sl) (t0 : List Sl) x1 x2 => nr (@DN.closeL.eq_4 (s0 :: t0) x1 x2)
@[simp] def zs_closeL_5 := fun (s0 : Sl) (t0 : List Sl) x1 x2 => nr (@DN.closeL.eq_5 (s0 :: t0) x1 x2)
@[simp] def zs_dIt_1 := fun x0 (s1 : Sl) (t1 : List Sl) => nr (@DN.dIt.eq_1 x0 (s1 :: t1))
@[simp] def zs_dEnum_1 := fun x0 (s1 : Sl) (t1 : List Sl) => nr (@DN.dEnum.eq_1 x0 (s1 :: t1))
@[simp] def zs_dZip_1 := fun x0 (s1 : Sl) (t1 : List Sl) => nr (@DN.dZip.eq_1 x0 (s1 :: t1))
@[simp] def zs_pairR_1 := fun x0 x1 => nr (@DN.pairR.eq_1 x0 x1)
@[simp] def zs_dFor_1 := fun x0 x1 x2 (s3 : Sl) (t3 : List Sl) => nr (@DN.dFor.eq_1 x0 x1 x2 (s3 :: t3))
@[simp] def zs_dItLn_1 := fun x0 (s1 : Sl) (t1 : List Sl) => nr (@DN.dItLn.eq_1 x0 (s1 :: t1))
@[simp] def zs_dZipLn_1 := fun x0 x1 (s1 : Sl) (t1 : List Sl) => nr (@DN.dZipLn.eq_1 x0 x1 (s1 :: t1))
@[simp] def zs_zipLn1_1 := fun x0 (s1 : Sl) (t1 : List Sl) x1 => nr (@DN.zipLn1.eq_1 x0 (s1 :: t1) x1)
@[simp] def zs_zipLn2_1 := fun x0 (s1 : Sl) (t1 : List Sl) x1 => nr (@DN.zipLn2.eq_1 x0 (s1 :: t1) x1)
@[simp] def zs_dEnLn_1 := fun x0 (s1 : Sl) (t1 : List Sl) => nr (@DN.dEnLn.eq_1 x0 (s1 :: t1))
@[simp] def zs_lnD_1 := fun (s0 : Sl) (t0 : List Sl) x1 => nr (@DN.lnD.eq_1 (s0 :: t0) x1)
@[simp] def zs_dLendS_1 := fun x0 x1 (s2 : Sl) (t2 : List Sl) => nr (@DN.dLendS.eq_1 x0 x1 (s2 :: t2))
@[simp] def zs_unlend_1 := fun x0 x1 (s2 : Sl) (t2 : List Sl) x3 => nr (@DN.unlend.eq_1 x0 x1 (s2 :: t2) x3)
@[simp] def zs_unlend_2 := fun x0 x1 (s2 : Sl) (t2 : List Sl) x3 => nr (@DN.unlend.eq_2 x0 x1 (s2 :: t2) x3)
@[simp] def zs_unlend_3 := fun x0 x1 => nr (@DN.unlend.eq_3 x0 x1)
@[simp] def zs_slotOf_1 := fun x0 => nr (@DN.slotOf.eq_1 x0)
@[simp] def zs_slotOf_2 := fun x0 => nr (@DN.slotOf.eq_2 x0)
@[simp] def zs_slotOf_3 := fun x0 x1 x2 => nr (@DN.slotOf.eq_3 x0 x1 x2)
@[simp] def zs_dLend_1 := fun x0 x1 (s2 : Sl) (t2 : List Sl) => nr (@DN.dLend.eq_1 x0 x1 (s2 :: t2))
@[simp] def zs_unlendO_1 := fun x0 x1 x2 (s3 : Sl) (t3 : List Sl) x4 => nr (@DN.unlendO.eq_1 x0 x1 x2 (s3 :: t3) x4)
@[simp] def zs_unlendO_2 := fun x0 x1 x2 (s3 : Sl) (t3 : List Sl) x4 => nr (@DN.unlendO.eq_2 x0 x1 x2 (s3 :: t3) x4)
@[simp] def zs_unlendO_3 := fun x0 x1 x2 => nr (@DN.unlendO.eq_3 x0 x1 x2)
@[simp] def zs_dUS_1 := fun (s0 : Sl) (t0 : List Sl) => nr (@DN.dUS.eq_1 (s0 :: t0))
@[simp] def zs_dUE_1 := fun (s0 : Sl) (t0 : List Sl) => nr (@DN.dUE.eq_1 (s0 :: t0))
@[simp] def zs_dUT_1 := fun (s0 : Sl) (t0 : List Sl) => nr (@DN.dUT.eq_1 (s0 :: t0))
@[simp] def zs_dDnew_1 := fun (s0 : Sl) (t0 : List Sl) => nr (@DN.dDnew.eq_1 (s0 :: t0))
@[simp] def zs_dCallS_1 := fun x0 x1 x2 x3 x4 (s5 : Sl) (t5 : List Sl) => nr (@DN.dCallS.eq_1 x0 x1 x2 x3 x4 (s5 :: t5))
@[simp] def zs_swaps_1 := fun x0 x1 x2 => nr (@DN.swaps.eq_1 x0 x1 x2)
@[simp] def zs_swapAt_1 := fun x0 x1 x2 x3 => nr (@DN.swapAt.eq_1 x0 x1 x2 x3)
@[simp] def zs_swapAt_2 := fun x0 x1 x2 x3 => nr (@DN.swapAt.eq_2 x0 x1 x2 x3)
@[simp] def zs_swapAt_3 := fun x0 x1 x2 x3 x4 => nr (@DN.swapAt.eq_3 x0 x1 x2 x3 x4)
@[simp] def zs_dNoPart_1 := fun (s0 : Sl) (t0 : List Sl) => nr (@DN.dNoPart.eq_1 (s0 :: t0))
@[simp] def zs_dSl_1 := fun x0 x1 x2 (s3 : Sl) (t3 : List Sl) => nr (@DN.dSl.eq_1 x0 x1 x2 (s3 :: t3))
@[simp] def zs_dPk_1 := fun x0 x1 x2 x3 (s4 : Sl) (t4 : List Sl) => nr (@DN.dPk.eq_1 x0 x1 x2 x3 (s4 :: t4))
@[simp] def zs_scalD_1 := nr (@DN.scalD.eq_1)
@[simp] def zs_scalD_2 := fun x0 => nr (@DN.scalD.eq_2 x0)
@[simp] def zs_scalD_3 := fun x0 => nr (@DN.scalD.eq_3 x0)
@[simp] def zs_scalD_4 := fun x0 => nr (@DN.scalD.eq_4 x0)
@[simp] def zs_scalD_5 := fun x0 => nr (@DN.scalD.eq_5 x0)
@[simp] def zs_scalD_6 := fun x0 => nr (@DN.scalD.eq_6 x0)
@[simp] def zs_scalD_7 := fun x0 x1 x2 x3 x4 x5 x6 => nr (@DN.scalD.eq_7 x0 x1 x2 x3 x4 x5 x6)
@[simp] def zs_gRev_1 := fun x0 => nr (@DN.gRev.eq_1 x0)
@[simp] def zs_gRev_2 := fun x0 => nr (@DN.gRev.eq_2 x0)
@[simp] def zs_gRev_3 := fun x0 x1 x2 => nr (@DN.gRev.eq_3 x0 x1 x2)
@[simp] def zs_gFld_1 := fun x0 x1 x2 x3 => nr (@DN.gFld.eq_1 x0 x1 x2 x3)
@[simp] def zs_fldD_1 := fun x0 => nr (@DN.fldD.eq_1 x0)
@[simp] def zs_fldD_2 := fun x0 x1 x2 x3 => nr (@DN.fldD.eq_2 x0 x1 x2 x3)
@[simp] def zs_putFD_1 := fun x0 x1 => nr (@DN.putFD.eq_1 x0 x1)
@[simp] def zs_putFD_2 := fun x0 x1 x2 x3 x4 => nr (@DN.putFD.eq_2 x0 x1 x2 x3 x4)
@[simp] theorem zt_putAt (cs : List PySem.Str) (f : PySem.Str) (d : D) (C : PySem.Str) (fs : List (PySem.Str × D)) : putAt cs f d (some (.ins C fs)) = if C ∈ cs then (if fs.length < 1000 then some (.ins C (putFD f d fs)) else none) else none := nr rfl
@[simp] theorem zt_finFld (ρ : Env) (j : Nat) (x : D) : finFld ρ j (some x) = .ok (ρ.set j (.own x)) () := nr rfl
@[simp] theorem zt_storeF (j : Nat) (cs : List PySem.Str) (f : PySem.Str) (s : Sl) (t : List Sl) (r : R) : storeF j cs f (s :: t) r = (esc (s :: t) r).bind fun ρ d => finFld ρ j (putAt cs f d (ownAt ρ j)) := nr rfl
@[simp] theorem zt_putTs0 (ρ : Env) : putTs [] [] ρ = some ρ := nr rfl
@[simp] theorem zt_putTs1 (i : Nat) (ts : List Tg) (d : D) (ds : List D) (s : Sl) (t : List Sl) : putTs (.nm i :: ts) (d :: ds) (s :: t) = putTs ts ds ((s :: t).set i (.fz d)) := nr rfl
def nextT (ts : List Tg) (ds : List D) (ρ : Env) (j : Nat) : Option D → Option Env
  | some x => putTs ts ds (ρ.set j (.own x))
  | none => none
@[simp] theorem zt_putTs2 (j : Nat) (cs : List PySem.Str) (f : PySem.Str) (ts : List Tg) (d : D) (ds : List D) (s : Sl) (t : List Sl) : putTs (.fld j cs f :: ts) (d :: ds) (s :: t) = nextT ts ds (s :: t) j (putAt cs f d (ownAt (s :: t) j)) := by
  show ((putAt cs f d (ownAt (s :: t) j)).map _).bind _ = _
  cases putAt cs f d (ownAt (s :: t) j) <;> rfl
@[simp] theorem zt_putTs3 (j i : Nat) (ts : List Tg) (d : D) (ds : List D) (s : Sl) (t : List Sl) : putTs (.ix j i :: ts) (d :: ds) (s :: t) = nextT ts ds (s :: t) j (ixAt d (ownAt (s :: t) j) (lnD (s :: t) i)) := by
  show ((ixAt d (ownAt (s :: t) j) (lnD (s :: t) i)).map _).bind _ = _
  cases ixAt d (ownAt (s :: t) j) (lnD (s :: t) i) <;> rfl
@[simp] theorem zt_ixAt (d x : D) (n : Nat) : ixAt d (some x) (some (.int (n : Int))) = gPut x (.int (n : Int)) d := nr rfl
@[simp] theorem zt_nextT (ts : List Tg) (ds : List D) (ρ : Env) (j : Nat) (x : D) : nextT ts ds ρ j (some x) = putTs ts ds (ρ.set j (.own x)) := nr rfl
def finT2 : Option Env → O Unit
  | some ρ => .ok ρ ()
  | none => .un
def finT1 (ts : List Tg) : Option (Env × List D) → O Unit
  | some (ρ, ds) => finT2 (putTs ts ds ρ)
  | none => .un
def useT (ts : List Tg) (ρ : Env) : Option (List R) → O Unit
  | some rs => if rs.length = ts.length then finT1 ts (escRs ρ rs) else .un
  | none => .un
@[simp] theorem zt_storeT (ts : List Tg) (s : Sl) (t : List Sl) (r : R) : storeT ts (s :: t) r = useT ts (s :: t) (partsR (s :: t) r) := by
  unfold storeT
  cases partsR (s :: t) r with
  | none => rfl
  | some rs =>
    show escTs ts (s :: t) rs = (if rs.length = ts.length then _ else _)
    unfold escTs
    congr 1
@[simp] theorem zt_useT (ts : List Tg) (ρ : Env) (rs : List R) : useT ts ρ (some rs) = if rs.length = ts.length then finT1 ts (escRs ρ rs) else .un := nr rfl
@[simp] theorem zt_finT1 (ts : List Tg) (ρ : Env) (ds : List D) : finT1 ts (some (ρ, ds)) = finT2 (putTs ts ds ρ) := nr rfl
@[simp] theorem zt_finT2 (ρ : Env) : finT2 (some ρ) = .ok ρ () := nr rfl
def argMk (C : PySem.Str) (ms : List Md) (m : List D → FO) : Option (Env × List R) → O R
  | some (ρ1, rs1) => if ioOk ms rs1 = true then mkRun C ms m ρ1 rs1 (passB ρ1 ms rs1) else .un
  | none => .un
@[simp] theorem zt_dMake (C : PySem.Str) (ms : List Md) (m : List D → FO) (fs : Env → O (List R)) (s : Sl) (t : List Sl) : dMake C ms m fs (s :: t) = (fs (s :: t)).bind fun ρ rs => makeM C ms m ρ rs := nr rfl
@[simp] theorem zt_makeM (C : PySem.Str) (ms : List Md) (m : List D → FO) (s : Sl) (t : List Sl) (rs : List R) : makeM C ms m (s :: t) rs = argMk C ms m (passA (s :: t) ms rs) := by
  unfold makeM
  cases passA (s :: t) ms rs <;> rfl
@[simp] theorem zt_argMk (C : PySem.Str) (ms : List Md) (m : List D → FO) (ρ : Env) (rs : List R) : argMk C ms m (some (ρ, rs)) = if ioOk ms rs = true then mkRun C ms m ρ rs (passB ρ ms rs) else .un := nr rfl
@[simp] theorem zt_mkRun (C : PySem.Str) (ms : List Md) (m : List D → FO) (ρ : Env) (rs : List R) (ds : List D) : mkRun C ms m ρ rs (some ds) = mkFin ms ρ rs (m (.ins C [] :: ds)) := nr rfl
@[simp] theorem zt_mkFin (ms : List Md) (ρ : Env) (rs : List R) (d : D) (outs : List D) : mkFin ms ρ rs (.ok (d :: outs) (.fz .non)) = .ok (putIO (unIO ρ (ioSl ms rs)) ms rs outs) (.own d) := nr rfl
@[simp] theorem zt_mkFinE (ms : List Md) (ρ : Env) (rs : List R) (d : D) (outs : List D) (e : Er) : mkFin ms ρ rs (.er (d :: outs) e) = .er (putIO (unIO ρ (ioSl ms rs)) ms rs outs) e := nr rfl
@[simp] theorem zt_dMeth (m : PySem.Str) (ms : List Md) (tb : List (PySem.Str × (List D → FO))) (fo : Env → O R) (fs : Env → O (List R)) (s : Sl) (t : List Sl) : dMeth m ms tb fo fs (s :: t) = (dN fo (s :: t)).bind fun ρ r => isMe m ms tb fs ρ r (useR ρ r) := nr rfl
@[simp] theorem zt_isMe (m : PySem.Str) (ms : List Md) (tb : List (PySem.Str × (List D → FO))) (fs : Env → O (List R)) (ρ : Env) (r : R) (C : PySem.Str) (fl : List (PySem.Str × D)) : isMe m ms tb fs ρ r (some (.ins C fl)) = if fldD m fl = none then runMe ms fs ρ r (altD tb C) else .un := nr rfl
@[simp] theorem zt_runMe (ms : List Md) (fs : Env → O (List R)) (ρ : Env) (r : R) (d : List D → FO) : runMe ms fs ρ r (some d) = (fs ρ).bind fun ρ rs => callM ms d ρ (r :: rs) := nr rfl
@[simp] theorem zt_altD (p : PySem.Str × (List D → FO)) (tb : List (PySem.Str × (List D → FO))) (C : PySem.Str) : altD (p :: tb) C = if p.1 = C then some p.2 else altD tb C := nr rfl
@[simp] theorem zt_dStar (f : Env → O R) (fs : Env → O (List R)) (s : Sl) (t : List Sl) : dStar f fs (s :: t) = (dN f (s :: t)).bind fun ρ r => finStar ρ fs ((useR ρ r).bind itemsR) := nr rfl
@[simp] theorem zt_itemsR (ds : List D) : itemsR (.lst ds) = some (ds.map R.fz) := nr rfl
@[simp] theorem zt_itemsRt (ds : List D) : itemsR (.tup ds) = some (ds.map R.fz) := nr rfl
@[simp] theorem zt_finStar (ρ : Env) (fs : Env → O (List R)) (is : List R) : finStar ρ fs (some is) = (fs ρ).bind fun ρ rs => .ok ρ (is ++ rs) := nr rfl
theorem escRs_fz (ρ : Env) : ∀ (ds : List D) (rs : List R), escRs ρ (ds.map R.fz ++ rs) = (escRs ρ rs).map fun p => (p.1, ds ++ p.2)
  | [], rs => by
    show escRs ρ rs = _
    cases escRs ρ rs <;> rfl
  | d :: ds, rs => by
    show escRs ρ (.fz d :: (ds.map R.fz ++ rs)) = _
    conv => lhs; unfold escRs; simp only [escR]; rw [escRs_fz ρ ds rs]
    cases escRs ρ rs <;> rfl
theorem escRs_fz0 (ρ : Env) (ds : List D) : escRs ρ (ds.map R.fz) = some (ρ, ds) := by
  have := escRs_fz ρ ds []
  rw [List.append_nil] at this
  rw [this]
  show (some (ρ, [])).map _ = _
  simp
@[simp] theorem escs_app (s : Sl) (t : List Sl) (ds : List D) (rs : List R) : escs (s :: t) (ds.map R.fz ++ rs) = (escs (s :: t) rs).bind fun ρ es => .ok ρ (ds ++ es) := by
  unfold escs
  rw [escRs_fz]
  cases escRs (s :: t) rs <;> rfl
@[simp] theorem escs_map (s : Sl) (t : List Sl) (ds : List D) : escs (s :: t) (ds.map R.fz) = .ok (s :: t) ds := by
  unfold escs
  rw [escRs_fz0]
@[simp] theorem zt_dGet (fo fk fd : Env → O R) (s : Sl) (t : List Sl) : dGet fo fk fd (s :: t) = (dN fo (s :: t)).bind fun ρ r1 => if isDct (useR ρ r1) = true then (dN fk ρ).bind fun ρ r2 => (dE fd ρ).bind fun ρ r3 => finGet ρ r3 (useR ρ r2) (useR ρ r1) else .un := nr rfl
@[simp] theorem zt_isDct (kvs : List (L2.Key × D)) : isDct (some (.dct kvs)) = true := nr rfl
@[simp] theorem zt_finGet (ρ : Env) (d y x : D) : finGet ρ (.fz d) (some y) (some x) = ret ρ (getOr x y d) := nr rfl
@[simp] theorem zt_dFlat (fi : Env → O (List R)) (i j : Nat) (s : Sl) (t : List Sl) : dFlat fi i j (s :: t) = (fi (s :: t)).bind fun ρ items => if (noOwnAt ρ [i, j] && (decide (i < ρ.length) && decide (j < ρ.length))) = true then finFlat ρ (flatR items) else .un := nr rfl
@[simp] theorem zt_finFlat (ρ : Env) (ds : List D) : finFlat ρ (some ds) = if ds.length < 100000 then .ok ρ (.own (.lst ds)) else .un := nr rfl
end DN
namespace DN
def finBM (ρ : Env) (j : Nat) : Option (D × D) → O R
  | some (d', y) => .ok (ρ.set j (.own d')) (.fz y)
  | none => .un
def ownBM (g : D → List D → Option (D × D)) (ds : List D) (ρ : Env) (j : Nat) : Option Sl → O R
  | some (.own d) => finBM ρ j (g d ds)
  | _ => .un
def isBM (j : Nat) (okT : D → Bool) (g : D → List D → Option (D × D)) (fs : Env → O (List R)) (ρ : Env) : Option Sl → O R
  | some (.own d0) => if okT d0 = true then (fs ρ).bind fun ρ rs => (escs ρ rs).bind fun ρ ds => ownBM g ds ρ j ρ[j]? else .un
  | _ => .un
theorem dBM_eq (j : Nat) (okT : D → Bool) (g : D → List D → Option (D × D)) (fs : Env → O (List R)) (ρ : Env) : dBM j okT g fs ρ = isBM j okT g fs ρ ρ[j]? := by
  unfold dBM isBM
  cases ρ[j]? with
  | none => rfl
  | some x => cases x <;> rfl
@[simp] theorem zt_dBM (j : Nat) (okT : D → Bool) (g : D → List D → Option (D × D)) (fs : Env → O (List R)) (s : Sl) (t : List Sl) : dBM j okT g fs (s :: t) = isBM j okT g fs (s :: t) (s :: t)[j]? := dBM_eq j okT g fs (s :: t)
@[simp] theorem zt_isBM (j : Nat) (okT : D → Bool) (g : D → List D → Option (D × D)) (fs : Env → O (List R)) (ρ : Env) (d0 : D) : isBM j okT g fs ρ (some (.own d0)) = if okT d0 = true then (fs ρ).bind fun ρ rs => (escs ρ rs).bind fun ρ ds => ownBM g ds ρ j ρ[j]? else .un := nr rfl
@[simp] theorem zt_ownBM (g : D → List D → Option (D × D)) (ds : List D) (ρ : Env) (j : Nat) (d : D) : ownBM g ds ρ j (some (.own d)) = finBM ρ j (g d ds) := nr rfl
@[simp] theorem zt_finBM (ρ : Env) (j : Nat) (d y : D) : finBM ρ j (some (d, y)) = .ok (ρ.set j (.own d)) (.fz y) := nr rfl
def finRng (ρ : Env) : Option (Int × Int × Nat) → O (List R)
  | some (lo, c, n) => .ok ρ (rngItems lo c n)
  | none => .un
def useRng (g : List D → Option (Int × Int × Nat)) (ρ : Env) : Option (List D) → O (List R)
  | some ds => finRng ρ (g ds)
  | none => .un
@[simp] theorem zt_dRng (g : List D → Option (Int × Int × Nat)) (fs : Env → O (List R)) (s : Sl) (t : List Sl) : dRng g fs (s :: t) = (fs (s :: t)).bind fun ρ rs => useRng g ρ (usesR ρ rs) := by
  unfold dRng
  congr 1
@[simp] theorem zt_useRng (g : List D → Option (Int × Int × Nat)) (ρ : Env) (ds : List D) : useRng g ρ (some ds) = finRng ρ (g ds) := nr rfl
@[simp] theorem zt_finRng (ρ : Env) (lo c : Int) (n : Nat) : finRng ρ (some (lo, c, n)) = .ok ρ (rngItems lo c n) := nr rfl
def finM (ms : List Md) (ρ : Env) (rs : List R) : FO → O R
  | .ok outs r => .ok (putIO (unIO ρ (ioSl ms rs)) ms rs outs) r
  | .er outs e => .er (putIO (unIO ρ (ioSl ms rs)) ms rs outs) e
  | .un => .un
def runM (ms : List Md) (m : List D → FO) (ρ : Env) (rs : List R) : Option (List D) → O R
  | some ds => finM ms ρ rs (m ds)
  | none => .un
def argM (ms : List Md) (m : List D → FO) : Option (Env × List R) → O R
  | some (ρ1, rs1) => if ioOk ms rs1 = true then runM ms m ρ1 rs1 (passB ρ1 ms rs1) else .un
  | none => .un
theorem callM_eq (ms : List Md) (m : List D → FO) (ρ : Env) (rs : List R) : callM ms m ρ rs = argM ms m (passA ρ ms rs) := by
  unfold callM
  cases passA ρ ms rs with
  | none => rfl
  | some p =>
    show (if ioOk ms p.2 = true then _ else _) = (if ioOk ms p.2 = true then runM ms m p.1 p.2 (passB p.1 ms p.2) else .un)
    congr 1
@[simp] theorem zt_callM (ms : List Md) (m : List D → FO) (s : Sl) (t : List Sl) (rs : List R) : callM ms m (s :: t) rs = argM ms m (passA (s :: t) ms rs) := callM_eq ms m (s :: t) rs
@[simp] theorem zt_argM (ms : List Md) (m : List D → FO) (ρ : Env) (rs : List R) : argM ms m (some (ρ, rs)) = if ioOk ms rs = true then runM ms m ρ rs (passB ρ ms rs) else .un := nr rfl
@[simp] theorem zt_runM (ms : List Md) (m : List D → FO) (ρ : Env) (rs : List R) (ds : List D) : runM ms m ρ rs (some ds) = finM ms ρ rs (m ds) := nr rfl
@[simp] theorem zt_finM (ms : List Md) (ρ : Env) (rs : List R) (outs : List D) (r : R) : finM ms ρ rs (.ok outs r) = .ok (putIO (unIO ρ (ioSl ms rs)) ms rs outs) r := nr rfl
@[simp] theorem zt_finMe (ms : List Md) (ρ : Env) (rs : List R) (outs : List D) (e : Er) : finM ms ρ rs (.er outs e) = .er (putIO (unIO ρ (ioSl ms rs)) ms rs outs) e := nr rfl
def finSet (ρ : Env) (j : Nat) : Option D → O Fl
  | some x => .ok (ρ.set j (.own x)) .nx
  | none => .un
def useSet (gs : D → D → D → Option D) (ρ : Env) (j : Nat) : R → Option D → Option D → O Fl
  | .fz d, some y, some x => finSet ρ j (gs x y d)
  | _, _, _ => .un
def isSet (j : Nat) (gs : D → D → D → Option D) (fi : Env → O R) (ρ : Env) (r : R) : Option D → O Fl
  | some _ => (dN fi ρ).bind fun ρ ri => useSet gs ρ j r (useR ρ ri) (ownAt ρ j)
  | none => .un
theorem dSetI_eq (j : Nat) (gs : D → D → D → Option D) (fi fv : Env → O R) (ρ : Env) : dSetI j gs fi fv ρ = (dE fv ρ).bind fun ρ r => isSet j gs fi ρ r (ownAt ρ j) := by
  unfold dSetI
  congr 1
@[simp] theorem zt_dSetI (j : Nat) (gs : D → D → D → Option D) (fi fv : Env → O R) (s : Sl) (t : List Sl) : dSetI j gs fi fv (s :: t) = (dE fv (s :: t)).bind fun ρ r => isSet j gs fi ρ r (ownAt ρ j) := dSetI_eq j gs fi fv (s :: t)
@[simp] theorem zt_isSet (j : Nat) (gs : D → D → D → Option D) (fi : Env → O R) (ρ : Env) (r : R) (d : D) : isSet j gs fi ρ r (some d) = (dN fi ρ).bind fun ρ ri => useSet gs ρ j r (useR ρ ri) (ownAt ρ j) := nr rfl
@[simp] theorem zt_useSet (gs : D → D → D → Option D) (ρ : Env) (j : Nat) (d y x : D) : useSet gs ρ j (.fz d) (some y) (some x) = finSet ρ j (gs x y d) := nr rfl
@[simp] theorem zt_finSet (ρ : Env) (j : Nat) (x : D) : finSet ρ j (some x) = .ok (ρ.set j (.own x)) .nx := nr rfl
def finTest (ρ : Env) : Option D → O Bool
  | some (.bl b) => .ok ρ b
  | _ => .un
@[simp] theorem zt_dTest (f : Env → O R) (s : Sl) (t : List Sl) : dTest f (s :: t) = (dN f (s :: t)).bind fun ρ r => finTest ρ (useR ρ r) := by
  unfold dTest
  congr 1
@[simp] theorem zt_finTest (ρ : Env) (b : Bool) : finTest ρ (some (.bl b)) = .ok ρ b := nr rfl
def finOp (g : D → D → Option R) (ρ : Env) : Option D → Option D → O R
  | some x, some y => ret ρ (g x y)
  | _, _ => .un
@[simp] theorem zt_lift2 (g : D → D → Option R) (s : Sl) (t : List Sl) (r1 r2 : R) : lift2 g (s :: t) r1 r2 = finOp g (s :: t) (useR (s :: t) r1) (useR (s :: t) r2) := by
  unfold lift2
  rfl
@[simp] theorem zt_finOp (g : D → D → Option R) (ρ : Env) (x y : D) : finOp g ρ (some x) (some y) = ret ρ (g x y) := nr rfl
def finCB (g : List D → Option R) (ρ : Env) : Option (List D) → O R
  | some ds => ret ρ (g ds)
  | none => .un
@[simp] theorem zt_dCB (g : List D → Option R) (fs : Env → O (List R)) (s : Sl) (t : List Sl) : dCB g fs (s :: t) = (fs (s :: t)).bind fun ρ rs => finCB g ρ (usesR ρ rs) := by
  unfold dCB
  congr 1
@[simp] theorem zt_finCB (g : List D → Option R) (ρ : Env) (ds : List D) : finCB g ρ (some ds) = ret ρ (g ds) := nr rfl
def finCh2 (g' : D → D → Option R) (ρ : Env) : Option D → Option D → O R
  | some y, some z => ret ρ (g' y z)
  | _, _ => .un
def finCh (g' : D → D → Option R) (c : Env → O R) (ρ : Env) (r2 : R) : Option R → O R
  | some (.fz (.bl true)) => (dN c ρ).bind fun ρ r3 => finCh2 g' ρ (useR ρ r2) (useR ρ r3)
  | some (.fz (.bl false)) => .ok ρ (.fz (.bl false))
  | _ => .un
def useCh (g g' : D → D → Option R) (c : Env → O R) (ρ : Env) (r2 : R) : Option D → Option D → O R
  | some x, some y => finCh g' c ρ r2 (g x y)
  | _, _ => .un
@[simp] theorem zt_dChain (g g' : D → D → Option R) (f h c : Env → O R) (s : Sl) (t : List Sl) : dChain g g' f h c (s :: t) = (dN f (s :: t)).bind fun ρ r1 => (dN h ρ).bind fun ρ r2 => useCh g g' c ρ r2 (useR ρ r1) (useR ρ r2) := by
  unfold dChain
  congr 1
@[simp] theorem zt_useCh (g g' : D → D → Option R) (c : Env → O R) (ρ : Env) (r2 : R) (x y : D) : useCh g g' c ρ r2 (some x) (some y) = finCh g' c ρ r2 (g x y) := nr rfl
@[simp] theorem zt_finChT (g' : D → D → Option R) (c : Env → O R) (ρ : Env) (r2 : R) : finCh g' c ρ r2 (some (.fz (.bl true))) = (dN c ρ).bind fun ρ r3 => finCh2 g' ρ (useR ρ r2) (useR ρ r3) := nr rfl
@[simp] theorem zt_finChF (g' : D → D → Option R) (c : Env → O R) (ρ : Env) (r2 : R) : finCh g' c ρ r2 (some (.fz (.bl false))) = .ok ρ (.fz (.bl false)) := nr rfl
@[simp] theorem zt_finChB (g' : D → D → Option R) (c : Env → O R) (ρ : Env) (r2 : R) (b : Bool) : finCh g' c ρ r2 (some (.fz (.bl b))) = if b = true then (dN c ρ).bind fun ρ r3 => finCh2 g' ρ (useR ρ r2) (useR ρ r3) else .ok ρ (.fz (.bl false)) := by cases b <;> rfl
@[simp] theorem zt_finCh2 (g' : D → D → Option R) (ρ : Env) (x y : D) : finCh2 g' ρ (some x) (some y) = ret ρ (g' x y) := nr rfl
def finMR (g : D → List D → Option R) (ρ : Env) : Option D → Option (List D) → O R
  | some d, some ds => ret ρ (g d ds)
  | _, _ => .un
def isMR (okT : D → Bool) (g : D → List D → Option R) (fs : Env → O (List R)) (ρ : Env) (r : R) : Option D → O R
  | some d0 => if okT d0 = true then (fs ρ).bind fun ρ rs => finMR g ρ (useR ρ r) (usesR ρ rs) else .un
  | none => .un
@[simp] theorem zt_dMR (okT : D → Bool) (g : D → List D → Option R) (f : Env → O R) (fs : Env → O (List R)) (s : Sl) (t : List Sl) : dMR okT g f fs (s :: t) = (dN f (s :: t)).bind fun ρ r => isMR okT g fs ρ r (useR ρ r) := by
  unfold dMR
  congr 1
@[simp] theorem zt_isMR (okT : D → Bool) (g : D → List D → Option R) (fs : Env → O (List R)) (ρ : Env) (r : R) (d0 : D) : isMR okT g fs ρ r (some d0) = if okT d0 = true then (fs ρ).bind fun ρ rs => finMR g ρ (useR ρ r) (usesR ρ rs) else .un := nr rfl
@[simp] theorem zt_finMR (g : D → List D → Option R) (ρ : Env) (d : D) (ds : List D) : finMR g ρ (some d) (some ds) = ret ρ (g d ds) := nr rfl
def finAug2 (gs : D → D → D → Option D) (ρ : Env) (j : Nat) (y x2 : D) : Option R → O Fl
  | some (.fz z) => finSet ρ j (gs x2 y z)
  | _ => .un
def useAug2 (op : D → D → Option R) (gs : D → D → D → Option D) (ρ : Env) (j : Nat) (y d0 : D) : Option D → Option D → O Fl
  | some w, some x2 => finAug2 gs ρ j y x2 (op d0 w)
  | _, _ => .un
def finAug (op : D → D → Option R) (gs : D → D → D → Option D) (fv : Env → O R) (ρ : Env) (j : Nat) (y : D) : Option D → O Fl
  | some d0 => (dN fv ρ).bind fun ρ rv => useAug2 op gs ρ j y d0 (useR ρ rv) (ownAt ρ j)
  | none => .un
def useAug (go : D → D → Option D) (op : D → D → Option R) (gs : D → D → D → Option D) (fv : Env → O R) (ρ : Env) (j : Nat) : R → Option D → O Fl
  | .fz y, some x => finAug op gs fv ρ j y (go x y)
  | _, _ => .un
def isAug (j : Nat) (go : D → D → Option D) (op : D → D → Option R) (gs : D → D → D → Option D) (fi fv : Env → O R) (ρ : Env) : Option D → O Fl
  | some _ => (dE fi ρ).bind fun ρ ri => useAug go op gs fv ρ j ri (ownAt ρ j)
  | none => .un
@[simp] theorem zt_dAugI (j : Nat) (go : D → D → Option D) (op : D → D → Option R) (gs : D → D → D → Option D) (fi fv : Env → O R) (s : Sl) (t : List Sl) : dAugI j go op gs fi fv (s :: t) = isAug j go op gs fi fv (s :: t) (ownAt (s :: t) j) := by
  unfold dAugI
  cases ownAt (s :: t) j with
  | none => rfl
  | some d =>
    show (dE fi (s :: t)).bind _ = (dE fi (s :: t)).bind _
    congr 1
@[simp] theorem zt_isAug (j : Nat) (go : D → D → Option D) (op : D → D → Option R) (gs : D → D → D → Option D) (fi fv : Env → O R) (ρ : Env) (d : D) : isAug j go op gs fi fv ρ (some d) = (dE fi ρ).bind fun ρ ri => useAug go op gs fv ρ j ri (ownAt ρ j) := nr rfl
@[simp] theorem zt_useAug (go : D → D → Option D) (op : D → D → Option R) (gs : D → D → D → Option D) (fv : Env → O R) (ρ : Env) (j : Nat) (y x : D) : useAug go op gs fv ρ j (.fz y) (some x) = finAug op gs fv ρ j y (go x y) := nr rfl
@[simp] theorem zt_finAug (op : D → D → Option R) (gs : D → D → D → Option D) (fv : Env → O R) (ρ : Env) (j : Nat) (y d0 : D) : finAug op gs fv ρ j y (some d0) = (dN fv ρ).bind fun ρ rv => useAug2 op gs ρ j y d0 (useR ρ rv) (ownAt ρ j) := nr rfl
@[simp] theorem zt_useAug2 (op : D → D → Option R) (gs : D → D → D → Option D) (ρ : Env) (j : Nat) (y d0 w x2 : D) : useAug2 op gs ρ j y d0 (some w) (some x2) = finAug2 gs ρ j y x2 (op d0 w) := nr rfl
@[simp] theorem zt_finAug2 (gs : D → D → D → Option D) (ρ : Env) (j : Nat) (y x2 z : D) : finAug2 gs ρ j y x2 (some (.fz z)) = finSet ρ j (gs x2 y z) := nr rfl
def finPart (ρ : Env) : Option D → O (Option Int)
  | some (.int i) => .ok ρ (some i)
  | _ => .un
@[simp] theorem zt_dPart (f : Env → O R) (s : Sl) (t : List Sl) : dPart f (s :: t) = (dN f (s :: t)).bind fun ρ r => finPart ρ (useR ρ r) := by
  unfold dPart
  congr 1
@[simp] theorem zt_finPart (ρ : Env) (i : Int) : finPart ρ (some (.int i)) = .ok ρ (some i) := nr rfl
def finTru (ρ : Env) : Option Bool → O Bool
  | some b => .ok ρ b
  | none => .un
@[simp] theorem zt_dTru (f : Env → O R) (s : Sl) (t : List Sl) : dTru f (s :: t) = (dN f (s :: t)).bind fun ρ r => finTru ρ ((useR ρ r).bind truD) := by
  unfold dTru
  congr 1
@[simp] theorem zt_finTru (ρ : Env) (b : Bool) : finTru ρ (some b) = .ok ρ b := nr rfl
def finStN (is : List Nat) : Option (Env × List R) → O Unit
  | some (ρ', rs') => .ok (sets ρ' is rs') ()
  | none => .un
def useStN (is : List Nat) (ρ : Env) : Option (List R) → O Unit
  | some rs => if rs.length = is.length then finStN is (settle ρ rs) else .un
  | none => .un
@[simp] theorem zt_storeN (is : List Nat) (s : Sl) (t : List Sl) (r : R) : storeN is (s :: t) r = useStN is (s :: t) (partsR (s :: t) r) := by
  unfold storeN
  cases partsR (s :: t) r with
  | none => rfl
  | some rs =>
    show (if rs.length = is.length then _ else _) = (if rs.length = is.length then _ else _)
    congr 1
@[simp] theorem zt_useStN (is : List Nat) (ρ : Env) (rs : List R) : useStN is ρ (some rs) = if rs.length = is.length then finStN is (settle ρ rs) else .un := nr rfl
@[simp] theorem zt_finStN (is : List Nat) (ρ : Env) (rs : List R) : finStN is (some (ρ, rs)) = .ok (sets ρ is rs) () := nr rfl
def finF2 (r : R) : Option (List D) → FO
  | some outs => .ok outs r
  | none => .un
def finF2e (e : Er) : Option (List D) → FO
  | some outs => .er outs e
  | none => .un
def finF1 (ms : List Md) : Option (Env × R) → FO
  | some (ρ, r) => finF2 r (outsOf ρ ms 0)
  | none => .un
def finF (ms : List Md) : O Fl → FO
  | .ok ρ (.rt r) => finF1 ms (closeR ρ r)
  | .ok ρ .nx => finF2 (.fz .non) (outsOf ρ ms 0)
  | .er ρ e => finF2e e (outsOf ρ ms 0)
  | _ => .un
@[simp] theorem zt_denF (ms : List Md) (n : Nat) (body : Env → O Fl) (ds : List D) : denF ms n body ds = finF ms (body (env0 ms n ds)) := by
  unfold denF
  cases body (env0 ms n ds) with
  | ok ρ fl =>
    cases fl with
    | nx => rfl
    | rt r =>
      show (match closeR ρ r with
        | some (ρ', r') => (match outsOf ρ' ms 0 with
          | some outs => FO.ok outs r'
          | none => .un)
        | none => .un) = finF1 ms (closeR ρ r)
      cases closeR ρ r with
      | none => rfl
      | some p => rfl
    | bk => rfl
    | ct => rfl
  | er ρ e => rfl
  | un => rfl
@[simp] theorem zt_finF_rt (ms : List Md) (ρ : Env) (r : R) : finF ms (.ok ρ (.rt r)) = finF1 ms (closeR ρ r) := nr rfl
@[simp] theorem zt_finF_nx (ms : List Md) (ρ : Env) : finF ms (.ok ρ .nx) = finF2 (.fz .non) (outsOf ρ ms 0) := nr rfl
@[simp] theorem zt_finF_er (ms : List Md) (ρ : Env) (e : Er) : finF ms (.er ρ e) = finF2e e (outsOf ρ ms 0) := nr rfl
@[simp] theorem zt_finF1 (ms : List Md) (ρ : Env) (r : R) : finF1 ms (some (ρ, r)) = finF2 r (outsOf ρ ms 0) := nr rfl
@[simp] theorem zt_finF2 (r : R) (outs : List D) : finF2 r (some outs) = .ok outs r := nr rfl
@[simp] theorem zt_finF2e (e : Er) (outs : List D) : finF2e e (some outs) = .er outs e := nr rfl
end DN
namespace Gf
/-- what can be made of the masks -/
inductive Span : List Nat → Nat → Prop where
  | nil : Span [] 0
  | out {m ms x} : Span ms x → Span (m :: ms) x
  | inn {m ms x} : Span ms x → Span (m :: ms) (m ^^^ x)
theorem Span.zero : ∀ ms : List Nat, Span ms 0
  | [] => .nil
  | _ :: ms => .out (Span.zero ms)
theorem xor_l (a b c : Nat) : a ^^^ (b ^^^ c) = b ^^^ (a ^^^ c) := by
  rw [← Nat.xor_assoc, Nat.xor_comm a b, Nat.xor_assoc]
theorem xor_x (a b : Nat) : a ^^^ (a ^^^ b) = b := by
  rw [← Nat.xor_assoc, Nat.xor_self, Nat.zero_xor]
theorem Span.xor : ∀ {ms : List Nat} {x y : Nat}, Span ms x → Span ms y → Span ms (x ^^^ y)
  | _, _, _, .nil, .nil => .nil
  | _, _, _, .out a, .out b => .out (Span.xor a b)
  | _, _, _, .out (x := x) (m := m) a, .inn (x := y) b => by
    rw [xor_l]
    exact .inn (Span.xor a b)
  | _, _, _, .inn (x := x) a, .out b => by
    rw [Nat.xor_assoc]
    exact .inn (Span.xor a b)
  | _, _, _, .inn (m := m) (x := x) a, .inn (x := y) b => by
    have e : m ^^^ x ^^^ (m ^^^ y) = x ^^^ y := by rw [Nat.xor_assoc, xor_l x m y, xor_x]
    rw [e]
    exact .out (Span.xor a b)
theorem Span.mem : ∀ {ms : List Nat} {m : Nat}, m ∈ ms → Span ms m
  | x :: ms, m, h => by
    rcases List.mem_cons.mp h with rfl | h
    · have := Span.inn (m := m) (Span.zero ms)
      rwa [Nat.xor_zero] at this
    · exact .out (Span.mem h)
/-- all that can be made of these, those make too -/
theorem Span.sub : ∀ {ms ns : List Nat} {x : Nat}, (∀ m ∈ ms, Span ns m) → Span ms x → Span ns x
  | [], ns, x, _, h => by cases h; exact Span.zero ns
  | m :: ms, ns, x, q, h => by
    have q' : ∀ k ∈ ms, Span ns k := fun k hk => q k (List.mem_cons_of_mem _ hk)
    cases h with
    | out h => exact Span.sub q' h
    | inn h => exact (q m List.mem_cons_self).xor (Span.sub q' h)
theorem Span.of_mem {ms ns : List Nat} {x : Nat} (q : ∀ m ∈ ms, m ∈ ns) (h : Span ms x) : Span ns x := h.sub fun m hm => .mem (q m hm)
theorem Span.cons_inv {m : Nat} {ms : List Nat} {x : Nat} (h : Span (m :: ms) x) : Span ms x ∨ ∃ y, x = m ^^^ y ∧ Span ms y := by
  cases h with
  | out a => exact .inl a
  | inn a => exact .inr ⟨_, rfl, a⟩
theorem Span.snoc {ms : List Nat} {m x : Nat} : Span (ms ++ [m]) x ↔ Span ms x ∨ Span ms (x ^^^ m) := by
  constructor
  · intro h
    have : Span (m :: ms) x := h.of_mem fun k hk => by
      rcases List.mem_append.mp hk with hk | hk
      · exact List.mem_cons_of_mem _ hk
      · rw [List.mem_singleton.mp hk]; exact List.mem_cons_self
    rcases this.cons_inv with q | ⟨y, e, q⟩
    · exact .inl q
    · refine .inr ?_
      rw [e, Nat.xor_comm m y, Nat.xor_assoc, Nat.xor_self, Nat.xor_zero]
      exact q
  · intro h
    rcases h with h | h
    · exact h.of_mem fun k hk => List.mem_append_left _ hk
    · have h1 : Span (ms ++ [m]) (x ^^^ m) := h.of_mem fun k hk => List.mem_append_left _ hk
      have h2 : Span (ms ++ [m]) m := .mem (List.mem_append_right _ List.mem_cons_self)
      have := h1.xor h2
      rwa [Nat.xor_assoc, Nat.xor_self, Nat.xor_zero] at this
theorem Span.bound {n : Nat} : ∀ {ms : List Nat} {x : Nat}, (∀ m ∈ ms, m < 2 ^ n) → Span ms x → x < 2 ^ n
  | _, _, _, .nil => Nat.two_pow_pos n
  | _, _, q, .out h => Span.bound (fun m hm => q m (List.mem_cons_of_mem _ hm)) h
  | _, _, q, .inn h => Nat.xor_lt_two_pow (q _ List.mem_cons_self) (Span.bound (fun m hm => q m (List.mem_cons_of_mem _ hm)) h)
open Classical in
noncomputable def rkFrom (ahead : List Nat) : List Nat → Nat
  | [] => 0
  | m :: ms => (if Span ahead m then 0 else 1) + rkFrom (ahead ++ [m]) ms
noncomputable def rk (ms : List Nat) : Nat := rkFrom [] ms
theorem rkFrom_app (a : List Nat) : ∀ (b c : List Nat), rkFrom a (b ++ c) = rkFrom a b + rkFrom (a ++ b) c := by
  intro b
  induction b generalizing a with
  | nil => intro c; simp [rkFrom]
  | cons m b ih =>
    intro c
    rw [List.cons_append, rkFrom, rkFrom, ih (a ++ [m]) c, List.append_assoc, List.singleton_append]
    omega
theorem rk_snoc_in {ms : List Nat} {m : Nat} (h : Span ms m) : rk (ms ++ [m]) = rk ms := by
  unfold rk
  rw [rkFrom_app, List.nil_append, rkFrom, if_pos h, rkFrom]
  rfl
theorem rk_snoc_out {ms : List Nat} {m : Nat} (h : ¬ Span ms m) : rk (ms ++ [m]) = rk ms + 1 := by
  unfold rk
  rw [rkFrom_app, List.nil_append, rkFrom, if_neg h, rkFrom]
/-- S lists what the masks make, each once -/
def Lists (ms S : List Nat) : Prop := S.Nodup ∧ ∀ x, x ∈ S ↔ Span ms x
theorem Lists.nil : Lists [] [0] := ⟨by simp, fun x => by
  rw [List.mem_singleton]
  constructor
  · rintro rfl; exact .nil
  · intro h; cases h; rfl⟩
theorem Lists.same {ms S : List Nat} {m : Nat} (h : Lists ms S) (hm : Span ms m) : Lists (ms ++ [m]) S := ⟨h.1, fun x => by
  rw [h.2, Span.snoc]
  constructor
  · exact .inl
  · rintro (q | q)
    · exact q
    · have := q.xor hm
      rwa [Nat.xor_assoc, Nat.xor_self, Nat.xor_zero] at this⟩
theorem Lists.double {ms S : List Nat} {m : Nat} (h : Lists ms S) (hm : ¬ Span ms m) : Lists (ms ++ [m]) (S ++ S.map (· ^^^ m)) := by
  refine ⟨List.nodup_append.mpr ⟨h.1, ?_, fun a ha b hb e => ?_⟩, fun x => ?_⟩
  · refine List.Pairwise.map _ (fun a b hab e => hab ?_) h.1
    have := congrArg (· ^^^ m) e
    simp only [Nat.xor_assoc, Nat.xor_self, Nat.xor_zero] at this
    exact this
  · subst e
    obtain ⟨c, hc, rfl⟩ := List.mem_map.mp hb
    have q1 := (h.2 _).mp ha
    have q2 := (h.2 _).mp hc
    have := q2.xor q1
    rw [← Nat.xor_assoc, Nat.xor_self, Nat.zero_xor] at this
    exact hm this
  · rw [List.mem_append, List.mem_map, Span.snoc, h.2]
    constructor
    · rintro (q | ⟨c, hc, rfl⟩)
      · exact .inl q
      · refine .inr ?_
        rw [Nat.xor_assoc, Nat.xor_self, Nat.xor_zero]
        exact (h.2 _).mp hc
    · rintro (q | q)
      · exact .inl q
      · exact .inr ⟨_, (h.2 _).mpr q, by rw [Nat.xor_assoc, Nat.xor_self, Nat.xor_zero]⟩
theorem lists_ex (ms : List Nat) : ∃ S, Lists ms S ∧ S.length = 2 ^ rk ms := by
  have key : ∀ (n : Nat) (ms : List Nat), ms.length = n → ∃ S, Lists ms S ∧ S.length = 2 ^ rk ms := by
    intro n
    induction n with
    | zero =>
      intro ms h
      have : ms = [] := List.eq_nil_of_length_eq_zero h
      subst this
      exact ⟨[0], .nil, rfl⟩
    | succ n ih =>
      intro ms h
      have hne : ms ≠ [] := fun e => by rw [e] at h; cases h
      have e : ms = ms.dropLast ++ [ms.getLast hne] := (List.dropLast_concat_getLast hne).symm
      rw [e]
      obtain ⟨S, h1, h2⟩ := ih ms.dropLast (by rw [List.length_dropLast, h]; rfl)
      by_cases hs : Span ms.dropLast (ms.getLast hne)
      · exact ⟨S, h1.same hs, by rw [rk_snoc_in hs]; exact h2⟩
      · exact ⟨_, h1.double hs, by rw [rk_snoc_out hs, List.length_append, List.length_map, h2, Nat.pow_succ]; omega⟩
  exact key _ ms rfl
theorem Lists.length {ms S : List Nat} (h : Lists ms S) : S.length = 2 ^ rk ms := by
  obtain ⟨T, h1, h2⟩ := lists_ex ms
  rw [← h2]
  refine List.Perm.length_eq ((List.perm_ext_iff_of_nodup h.1 h1.1).mpr fun x => ?_)
  rw [h.2, h1.2]
/-- the rank hangs on what can be made alone -/
theorem rk_eq {ms ns : List Nat} (h : ∀ x, Span ms x ↔ Span ns x) : rk ms = rk ns := by
  obtain ⟨S, h1, h2⟩ := lists_ex ms
  have h3 : Lists ns S := ⟨h1.1, fun x => by rw [h1.2, h]⟩
  have h4 := h3.length
  rw [h2] at h4
  rcases Nat.lt_trichotomy (rk ms) (rk ns) with q | q | q
  · exact absurd h4 (Nat.ne_of_lt (Nat.pow_lt_pow_right (by decide) q))
  · exact q
  · exact absurd h4 (Nat.ne_of_gt (Nat.pow_lt_pow_right (by decide) q))
theorem rk_same {ms ns : List Nat} (h1 : ∀ m ∈ ms, m ∈ ns) (h2 : ∀ m ∈ ns, m ∈ ms) : rk ms = rk ns := rk_eq fun _ => ⟨fun h => h.of_mem h1, fun h => h.of_mem h2⟩
/-- (t, x): x has the bit t; those behind have it not -/
def Ech : List (Nat × Nat) → Prop
  | [] => True
  | p :: r => p.2.testBit p.1 = true ∧ (∀ q ∈ r, q.2.testBit p.1 = false) ∧ Ech r
theorem Ech.span_bit : ∀ {L : List (Nat × Nat)} {t : Nat}, (∀ q ∈ L, q.2.testBit t = false) → ∀ {x : Nat}, Span (L.map (·.2)) x → x.testBit t = false
  | [], t, _, x, h => by cases h; exact Nat.zero_testBit t
  | p :: r, t, q, x, h => by
    have q' := fun k hk => q k (List.mem_cons_of_mem _ hk)
    cases h with
    | out h => exact Ech.span_bit q' h
    | inn h => rw [Nat.testBit_xor, q p List.mem_cons_self, Ech.span_bit q' h]; rfl
/-- what has none of the bits and can be made is 0 -/
theorem Ech.zero : ∀ {L : List (Nat × Nat)} {x : Nat}, Ech L → (∀ p ∈ L, x.testBit p.1 = false) → Span (L.map (·.2)) x → x = 0
  | [], x, _, _, h => by cases h; rfl
  | p :: r, x, e, q, h => by
    obtain ⟨e1, e2, e3⟩ := e
    have hp := q p List.mem_cons_self
    cases h with
    | out h => exact Ech.zero e3 (fun k hk => q k (List.mem_cons_of_mem _ hk)) h
    | inn h =>
      rw [Nat.testBit_xor, e1, Ech.span_bit e2 h] at hp
      cases hp
theorem Ech.snoc : ∀ {L : List (Nat × Nat)} {t x : Nat}, Ech L → (∀ p ∈ L, x.testBit p.1 = false) → x.testBit t = true → Ech (L ++ [(t, x)])
  | [], t, x, _, _, h => ⟨h, by simp, trivial⟩
  | p :: r, t, x, e, q, h => by
    obtain ⟨e1, e2, e3⟩ := e
    refine ⟨e1, fun k hk => ?_, Ech.snoc e3 (fun k hk => q k (List.mem_cons_of_mem _ hk)) h⟩
    rcases List.mem_append.mp hk with hk | hk
    · exact e2 k hk
    · rw [List.mem_singleton.mp hk]; exact q p List.mem_cons_self
/-- L makes the same as ms, and has as many as the rank -/
structure Basis (L : List (Nat × Nat)) (ms : List Nat) : Prop where
  ech : Ech L
  span : ∀ x, Span (L.map (·.2)) x ↔ Span ms x
  len : L.length = rk ms
theorem Basis.nil : Basis [] [] := ⟨trivial, fun _ => Iff.rfl, rfl⟩
/-- a mask that is made of others, what is left of it: nothing -/
theorem Basis.same {L : List (Nat × Nat)} {ms : List Nat} {m : Nat} (h : Basis L ms) (hs : Span (L.map (·.2)) m) : Basis L (ms ++ [m]) :=
  have hm := (h.span m).mp hs
  ⟨h.ech, fun x => by
    rw [h.span, Span.snoc]
    constructor
    · exact .inl
    · rintro (q | q)
      · exact q
      · have := q.xor hm
        rwa [Nat.xor_assoc, Nat.xor_self, Nat.xor_zero] at this, by rw [rk_snoc_in hm]; exact h.len⟩
theorem Basis.more {L : List (Nat × Nat)} {ms : List Nat} {m t x : Nat} (h : Basis L ms) (hz : ∀ p ∈ L, x.testBit p.1 = false) (ht : x.testBit t = true) (hs : Span (L.map (·.2)) (m ^^^ x)) : Basis (L ++ [(t, x)]) (ms ++ [m]) := by
  have h0 : x ≠ 0 := fun e => by rw [e, Nat.zero_testBit] at ht; cases ht
  have no : ¬ Span ms m := fun q => by
    have := ((h.span m).mpr q).xor hs
    rw [xor_x] at this
    exact h0 (h.ech.zero hz this)
  refine ⟨h.ech.snoc hz ht, fun y => ?_, by rw [rk_snoc_out no, List.length_append, h.len]; rfl⟩
  rw [List.map_append, List.map_singleton, Span.snoc, Span.snoc, h.span, h.span]
  have hmx := (h.span _).mp hs
  constructor
  · rintro (q | q)
    · exact .inl q
    · refine .inr ?_
      have := q.xor hmx
      have e : y ^^^ x ^^^ (m ^^^ x) = y ^^^ m := by rw [Nat.xor_assoc, xor_l x m x, Nat.xor_self, Nat.xor_zero]
      rwa [e] at this
  · rintro (q | q)
    · exact .inl q
    · refine .inr ?_
      have := q.xor hmx
      have e : y ^^^ m ^^^ (m ^^^ x) = y ^^^ x := by rw [Nat.xor_assoc, xor_x]
      rwa [e] at this
end Gf
namespace DN
open L2 (kitB atI ixN Key)
open PySem (PyData Str)
abbrev iN (m : Nat) : D := D.int (m : Int)
/-- a bound -/
def nI (n : Nat) : Int := n
@[simp] theorem kit_int_int : kitB "int" "int" = some true := by decide +kernel
@[simp] theorem kit_int_bool : kitB "int" "bool" = some false := by decide +kernel
@[simp] theorem kit_bool_int : kitB "bool" "int" = some true := by decide +kernel
@[simp] theorem kit_bool_bool : kitB "bool" "bool" = some true := by decide +kernel
@[simp] theorem kit_int_list : kitB "int" "list" = some false := by decide +kernel
@[simp] theorem kit_list_list : kitB "list" "list" = some true := by decide +kernel
@[simp] theorem kit_tuple_tuple : kitB "tuple" "tuple" = some true := by decide +kernel
@[simp] theorem kit_list_tuple : kitB "list" "tuple" = some false := by decide +kernel
@[simp] theorem kit_tuple_list : kitB "tuple" "list" = some false := by decide +kernel
@[simp] theorem kit_int_tuple : kitB "int" "tuple" = some false := by decide +kernel
@[simp] theorem kit_none_int : kitB "NoneType" "int" = some false := by decide +kernel
@[simp] theorem kit_none_list : kitB "NoneType" "list" = some false := by decide +kernel
@[simp] theorem kit_none_tuple : kitB "NoneType" "tuple" = some false := by decide +kernel
@[simp] theorem kit_list_int : kitB "list" "int" = some false := by decide +kernel
@[simp] theorem kit_tuple_int : kitB "tuple" "int" = some false := by decide +kernel
@[simp] theorem kit_str_int : kitB "str" "int" = some false := by decide +kernel
@[simp] theorem kit_str_list : kitB "str" "list" = some false := by decide +kernel
@[simp] theorem kit_str_tuple : kitB "str" "tuple" = some false := by decide +kernel
@[simp] theorem kit_str_str : kitB "str" "str" = some true := by decide +kernel
@[simp] theorem kit_dict_int : kitB "dict" "int" = some false := by decide +kernel
@[simp] theorem kit_dict_list : kitB "dict" "list" = some false := by decide +kernel
@[simp] theorem kit_dict_tuple : kitB "dict" "tuple" = some false := by decide +kernel
@[simp] theorem kit_bool_list : kitB "bool" "list" = some false := by decide +kernel
@[simp] theorem kit_bool_tuple : kitB "bool" "tuple" = some false := by decide +kernel
@[simp] theorem kit_int_str : kitB "int" "str" = some false := by decide +kernel
@[simp] theorem kit_list_str : kitB "list" "str" = some false := by decide +kernel
@[simp] theorem kit_tuple_str : kitB "tuple" "str" = some false := by decide +kernel
theorem half_ind {P : Nat → Prop} (h0 : P 0) (h : ∀ n, 0 < n → P (n / 2) → P n) : ∀ n, P n := fun n => by
  induction n using Nat.strongRecOn with
  | ind n ih =>
    by_cases e : n = 0
    · subst e; exact h0
    · exact h n (by omega) (ih _ (by omega))
theorem mod2_and (a b : Nat) : ((a &&& b) % 2 = 1) ↔ (a % 2 = 1 ∧ b % 2 = 1) := by
  have := Nat.testBit_and a b 0
  rw [Nat.testBit_zero, Nat.testBit_zero, Nat.testBit_zero, ← Bool.decide_and, decide_eq_decide] at this
  exact this
theorem mod2_or (a b : Nat) : ((a ||| b) % 2 = 1) ↔ (a % 2 = 1 ∨ b % 2 = 1) := by
  have := Nat.testBit_or a b 0
  rw [Nat.testBit_zero, Nat.testBit_zero, Nat.testBit_zero, ← Bool.decide_or, decide_eq_decide] at this
  exact this
theorem mod2_xor (a b : Nat) : (a ^^^ b) % 2 = (a % 2 + b % 2) % 2 := by
  have h1 := Nat.mod_two_eq_zero_or_one a
  have h2 := Nat.mod_two_eq_zero_or_one b
  have h3 : (a ^^^ b).testBit 0 = (a.testBit 0 ^^ b.testBit 0) := Nat.testBit_xor a b 0
  simp only [Nat.testBit_zero] at h3
  have h4 := Nat.mod_two_eq_zero_or_one (a ^^^ b)
  rcases h1 with h1 | h1 <;> rcases h2 with h2 | h2 <;> rcases h4 with h4 | h4 <;> simp_all
theorem xor_add (a : Nat) : ∀ b : Nat, (a ^^^ b) + 2 * (a &&& b) = a + b := by
  induction a using half_ind with
  | h0 => intro b; simp
  | h a _ ih =>
    intro b
    have e1 : (a ^^^ b) / 2 = a / 2 ^^^ b / 2 := Nat.xor_div_two
    have e2 : (a &&& b) / 2 = a / 2 &&& b / 2 := Nat.and_div_two
    have e3 := mod2_xor a b
    have e4 := mod2_and a b
    have q := ih (b / 2)
    have h1 := Nat.mod_two_eq_zero_or_one a
    have h2 := Nat.mod_two_eq_zero_or_one b
    omega
theorem or_add (a : Nat) : ∀ b : Nat, (a ||| b) = (a ^^^ b) + (a &&& b) := by
  induction a using half_ind with
  | h0 => intro b; simp
  | h a _ ih =>
    intro b
    have e1 : (a ^^^ b) / 2 = a / 2 ^^^ b / 2 := Nat.xor_div_two
    have e2 : (a &&& b) / 2 = a / 2 &&& b / 2 := Nat.and_div_two
    have e3 : (a ||| b) / 2 = a / 2 ||| b / 2 := Nat.or_div_two
    have q := ih (b / 2)
    have h1 := Nat.mod_two_eq_zero_or_one a
    have h2 := Nat.mod_two_eq_zero_or_one b
    have t2 := mod2_and a b
    have t3 := mod2_or a b
    have t1 := xor_add a b
    have k : (a ||| b) % 2 = (a ^^^ b) % 2 + (a &&& b) % 2 := by omega
    omega
theorem band_nat (a b : Nat) : PySem.Builtin.bitAnd (a : Int) (b : Int) = ((a &&& b : Nat) : Int) := by
  rw [PyProof.Rows.bitAnd_pp (Int.natCast_nonneg _) (Int.natCast_nonneg _)]
  rfl
theorem bxN (a b : Nat) : bxor (a : Int) (b : Int) = ((a ^^^ b : Nat) : Int) := by
  unfold bxor
  rw [PyProof.Rows.bitXor_and, band_nat]
  have := xor_add a b
  omega
theorem baN (a b : Nat) : band (a : Int) (b : Int) = ((a &&& b : Nat) : Int) := band_nat a b
theorem boN (a b : Nat) : bor (a : Int) (b : Int) = ((a ||| b : Nat) : Int) := by
  unfold bor
  rw [PyProof.Rows.bitOr_and, band_nat]
  have h1 := xor_add a b
  have h2 := or_add a b
  omega
/-- the bits of a that b has not -/
def andN (a b : Nat) : Nat := a ^^^ (a &&& b)
theorem andN_add (a b : Nat) : andN a b + (a &&& b) = a := by
  have h := xor_add a (a &&& b)
  have e : a &&& (a &&& b) = a &&& b := by rw [← Nat.and_assoc, Nat.and_self]
  rw [e] at h
  unfold andN
  omega
theorem testBit_andN (a b j : Nat) : (andN a b).testBit j = (a.testBit j && !b.testBit j) := by
  unfold andN
  rw [Nat.testBit_xor, Nat.testBit_and]
  cases a.testBit j <;> cases b.testBit j <;> rfl
theorem banN (a b : Nat) : band (a : Int) (bnot (b : Int)) = ((andN a b : Nat) : Int) := by
  unfold band bnot
  have hb : PySem.Builtin.bitNot (b : Int) = -((b : Int)) - 1 := rfl
  rw [PyProof.Rows.bitAnd_pn (by omega) (by rw [hb]; omega)]
  have e : (PySem.Builtin.bitNot (PySem.Builtin.bitNot (b : Int))).toNat = b := by
    rw [hb]
    show (-(-((b : Int)) - 1) - 1).toNat = b
    omega
  rw [e, Int.toNat_natCast]
  have := andN_add a b
  omega
theorem low_bit (n : Nat) : 0 < n → ∃ t, n.testBit t = true ∧ (∀ j, j < t → n.testBit j = false) ∧ (n &&& (n - 1)) + 2 ^ t = n := by
  induction n using half_ind with
  | h0 => intro h; omega
  | h n _ ih =>
    intro hn
    have t2 := mod2_and n (n - 1)
    have e1 : (n &&& (n - 1)) / 2 = n / 2 &&& (n - 1) / 2 := Nat.and_div_two
    rcases Nat.mod_two_eq_zero_or_one n with h | h
    · obtain ⟨t, h1, h2, h3⟩ := ih (by omega)
      refine ⟨t + 1, by rw [Nat.testBit_succ]; exact h1, fun j hj => ?_, ?_⟩
      · cases j with
        | zero => rw [Nat.testBit_zero]; simp [h]
        | succ j => rw [Nat.testBit_succ]; exact h2 j (by omega)
      · have e2 : (n - 1) / 2 = n / 2 - 1 := by omega
        rw [e2] at e1
        rw [Nat.pow_succ]
        omega
    · refine ⟨0, by rw [Nat.testBit_zero]; simp [h], fun j hj => absurd hj (Nat.not_lt_zero j), ?_⟩
      have e2 : (n - 1) / 2 = n / 2 := by omega
      rw [e2, Nat.and_self] at e1
      omega
/-- the place of the lowest bit -/
def lsb (n : Nat) : Nat := (n - (n &&& (n - 1))).log2
theorem lsb_eq {n t : Nat} (h1 : n.testBit t = true) (h2 : ∀ j, j < t → n.testBit j = false) : lsb n = t := by
  have hn : 0 < n := Nat.pos_of_ne_zero fun e => by rw [e, Nat.zero_testBit] at h1; cases h1
  obtain ⟨s, k1, k2, k3⟩ := low_bit n hn
  have e : s = t := by
    rcases Nat.lt_trichotomy s t with q | q | q
    · rw [h2 s q] at k1; cases k1
    · exact q
    · rw [k2 t q] at h1; cases h1
  subst e
  unfold lsb
  have e2 : n - (n &&& (n - 1)) = 2 ^ s := by
    generalize 2 ^ s = y at *
    omega
  rw [e2, Nat.log2_two_pow]
theorem lsb_spec {n : Nat} (hn : 0 < n) : n.testBit (lsb n) = true ∧ (∀ j, j < lsb n → n.testBit j = false) ∧ (n &&& (n - 1)) + 2 ^ lsb n = n := by
  obtain ⟨t, h1, h2, h3⟩ := low_bit n hn
  rw [lsb_eq h1 h2]
  exact ⟨h1, h2, h3⟩
theorem lsb_lt {n b : Nat} (hn : 0 < n) (hb : n < 2 ^ b) : lsb n < b := by
  rcases Nat.lt_or_ge (lsb n) b with q | q
  · exact q
  · have := (lsb_spec hn).1
    rw [Nat.testBit_lt_two_pow (Nat.lt_of_lt_of_le hb (Nat.pow_le_pow_right (by decide) q))] at this
    cases this
theorem bandNeg {n : Nat} (hn : 0 < n) : band (n : Int) (-(n : Int)) = ((2 ^ lsb n : Nat) : Int) := by
  obtain ⟨h1, h2, h3⟩ := lsb_spec hn
  unfold band
  rw [PyProof.Rows.bitAnd_pn (by omega) (by omega)]
  have e : (PySem.Builtin.bitNot (-(n : Int))).toNat = n - 1 := by
    unfold PySem.Builtin.bitNot
    show (-(-(n : Int)) - 1).toNat = n - 1
    omega
  rw [e, Int.toNat_natCast]
  omega
/-- bit_length -/
def blen (n : Nat) : Nat := if n = 0 then 0 else n.log2 + 1
theorem ibitsN (n : Nat) : ibits (n : Int) = blen n := by
  unfold ibits PySem.Builtin.Int.intBits blen
  by_cases h : n = 0
  · subst h; rfl
  · have h' : ((n : Int) == 0) = false := by
      rw [beq_eq_false_iff_ne]
      omega
    rw [h', Int.natAbs_natCast, if_neg h]
    rfl
theorem blen_le {n k : Nat} (h : n < 2 ^ k) : blen n ≤ k := by
  unfold blen
  by_cases h0 : n = 0
  · rw [if_pos h0]; omega
  · rw [if_neg h0]
    exact (Nat.log2_lt h0).mpr h
@[simp] theorem blen_pow (t : Nat) : blen (2 ^ t) = t + 1 := by
  unfold blen
  rw [if_neg (Nat.ne_of_gt (Nat.two_pow_pos t)), Nat.log2_two_pow]
theorem okMulN {a b : Nat} (h : a < 2 ^ 64 ∨ b < 2 ^ 64) : okMul (a : Int) (b : Int) = true := by
  unfold okMul
  rw [ibitsN, ibitsN, Bool.or_eq_true, Bool.or_eq_true]
  rcases h with h | h
  · exact .inl (Nat.ble_eq_true_of_le (blen_le h))
  · exact .inr (.inl (Nat.ble_eq_true_of_le (blen_le h)))
theorem okPowN {a b k : Nat} (h : a < 2 ^ k) (h2 : k * b ≤ 134217728) : okPow (a : Int) (b : Int) = true := by
  unfold okPow
  rw [ibitsN, Bool.and_eq_true, Int.toNat_natCast]
  refine ⟨decide_eq_true (Int.natCast_nonneg b), Nat.ble_eq_true_of_le ?_⟩
  have := Nat.mul_le_mul_right b (blen_le h)
  omega
theorem okShlN {a b k : Nat} (h : a < 2 ^ k) (h2 : k + b ≤ 134217728) : okShl (a : Int) (b : Int) = true := by
  unfold okShl
  rw [ibitsN, Bool.and_eq_true, Int.toNat_natCast]
  refine ⟨decide_eq_true (Int.natCast_nonneg b), Nat.ble_eq_true_of_le ?_⟩
  have := blen_le h
  omega
theorem okDivN {b : Nat} (h0 : 0 < b) (h1 : b < 2 ^ 300) : okDiv (b : Int) = true := by
  unfold okDiv
  rw [Bool.and_eq_true]
  refine ⟨decide_eq_true (by omega), Nat.ble_eq_true_of_le (m := 9000) ?_⟩
  rw [Int.natAbs_natCast]
  have := (Nat.log2_lt (Nat.ne_of_gt h0)).mpr h1
  omega
theorem shlIN (a k : Nat) : shlI (a : Int) (k : Int) = ((a * 2 ^ k : Nat) : Int) := by
  unfold shlI
  rw [Int.toNat_natCast]
  rfl
theorem shrIN (a k : Nat) : shrI (a : Int) (k : Int) = ((a >>> k : Nat) : Int) := by
  unfold shrI
  rw [Int.toNat_natCast, Nat.shiftRight_eq_div_pow]
  rfl
theorem iI_ok {c : Int → Int → Bool} {f : Int → Int → Int} {i j : Int} (h : c i j = true) : iI c f (.int i) (.int j) = some (.fz (.int (f i j))) := if_pos h
theorem orE_l {α : Type} {a b : D → D → Option α} {x y : D} {z : α} (h : a x y = some z) : orE a b x y = some z := by
  unfold orE
  rw [h]
theorem orE_r {α : Type} {a b : D → D → Option α} {x y : D} (h : a x y = none) : orE a b x y = b x y := by
  unfold orE
  rw [h]
@[simp] theorem gAdd_N (a b : Nat) : gAdd (iN a) (iN b) = some (.fz (iN (a + b))) := nr rfl
@[simp] theorem gAddI_N (a b : Nat) : gAddI (iN a) (iN b) = some (.fz (iN (a + b))) := nr rfl
@[simp low] theorem gAdd_i (a b : Int) : gAdd (.int a) (.int b) = some (.fz (.int (a + b))) := nr rfl
@[simp low] theorem gAddI_i (a b : Int) : gAddI (.int a) (.int b) = some (.fz (.int (a + b))) := nr rfl
@[simp] theorem gAdd_lst {xs ys : List D} (h : xs.length + ys.length ≤ 100000) : gAdd (.lst xs) (.lst ys) = some (.own (.lst (xs ++ ys))) := by
  have e : lstAdd (.lst xs) (.lst ys) = some (.own (.lst (xs ++ ys))) := if_pos h
  unfold gAdd
  rw [orE_r (by rfl), orE_l e]
@[simp] theorem gSub_N {a b : Nat} (h : b ≤ a) : gSub (iN a) (iN b) = some (.fz (iN (a - b))) := by
  have e : ((a - b : Nat) : Int) = (a : Int) - b := Int.ofNat_sub h
  show some (R.fz (.int ((a : Int) - b))) = some (R.fz (.int ((a - b : Nat) : Int)))
  rw [e]
@[simp low] theorem gSub_i (a b : Int) : gSub (.int a) (.int b) = some (.fz (.int (a - b))) := nr rfl
theorem gMul_ok {i j : Int} (h : okMul i j = true) : gMul (.int i) (.int j) = some (.fz (.int (i * j))) := by
  unfold gMul
  exact orE_l (iI_ok h)
theorem gMulI_ok {i j : Int} (h : okMul i j = true) : gMulI (.int i) (.int j) = some (.fz (.int (i * j))) := by
  exact iI_ok h
@[simp] theorem gMul_l {a b : Nat} (h : a < 2 ^ 64) : gMul (iN a) (iN b) = some (.fz (iN (a * b))) := by rw [gMul_ok (okMulN (.inl h))]; rfl
@[simp] theorem gMul_r {a b : Nat} (h : b < 2 ^ 64) : gMul (iN a) (iN b) = some (.fz (iN (a * b))) := by rw [gMul_ok (okMulN (.inr h))]; rfl
@[simp] theorem gMulI_l {a b : Nat} (h : a < 2 ^ 64) : gMulI (iN a) (iN b) = some (.fz (iN (a * b))) := by rw [gMulI_ok (okMulN (.inl h))]; rfl
@[simp] theorem gMulI_r {a b : Nat} (h : b < 2 ^ 64) : gMulI (iN a) (iN b) = some (.fz (iN (a * b))) := by rw [gMulI_ok (okMulN (.inr h))]; rfl
@[simp] theorem gDiv_N {a b : Nat} (h0 : 0 < b) (h1 : b < 2 ^ 64) : gDiv (iN a) (iN b) = some (.fz (iN (a / b))) := (iI_ok (okDivN h0 (Nat.lt_trans h1 (by decide)))).trans rfl
@[simp] theorem gMod_N {a b : Nat} (h : 0 < b) : gMod (iN a) (iN b) = some (.fz (iN (a % b))) := by
  exact (iI_ok (c := fun _ j => decide (0 < j)) (decide_eq_true (by omega))).trans rfl
@[simp] theorem gPow_N {a b : Nat} (h : a < 2 ^ 64) (h2 : b ≤ 1000000) : gPow (iN a) (iN b) = some (.fz (iN (a ^ b))) := by
  refine (iI_ok (f := fun i j => i ^ j.toNat) (okPowN h (by omega))).trans ?_
  simp
@[simp] theorem gShl_1 {b : Nat} (h : b ≤ 100000) : gShl (iN 1) (iN b) = some (.fz (iN (2 ^ b))) := by
  refine (iI_ok (i := ((1 : Nat) : Int)) (okShlN (k := 1) (by decide) (by omega))).trans ?_
  rw [shlIN, Nat.one_mul]
theorem gShl_N {a b : Nat} (k : Nat) (h : a < 2 ^ k) (h2 : k + b ≤ 134217728) : gShl (iN a) (iN b) = some (.fz (iN (a * 2 ^ b))) := by
  refine (iI_ok (okShlN h h2)).trans ?_
  rw [shlIN]
@[simp] theorem gShl_s {a b : Nat} (h : a < 2 ^ 64) (h2 : b ≤ 100000) : gShl (iN a) (iN b) = some (.fz (iN (a * 2 ^ b))) := gShl_N 64 h (by omega)
@[simp] theorem gShr_N (a b : Nat) : gShr (iN a) (iN b) = some (.fz (iN (a >>> b))) := by
  refine (iI_ok (c := fun _ j => decide (0 ≤ j)) (decide_eq_true (Int.natCast_nonneg b))).trans ?_
  rw [shrIN]
@[simp] theorem gAnd_N (a b : Nat) : gAnd (iN a) (iN b) = some (.fz (iN (a &&& b))) := by
  show some (R.fz (.int (band _ _))) = _
  rw [baN]
theorem shr_and_one (a b : Nat) : (a >>> b) &&& 1 = (a.testBit b).toNat := by
  rw [Nat.and_one_is_mod, Nat.testBit_eq_decide_div_mod_eq, Nat.shiftRight_eq_div_pow]
  rcases Nat.mod_two_eq_zero_or_one (a / 2 ^ b) with h | h <;> simp [h]
@[simp high] theorem gAnd_bit (a b : Nat) : gAnd (iN (a >>> b)) (iN 1) = some (.fz (iN (a.testBit b).toNat)) := by rw [gAnd_N, shr_and_one]
@[simp] theorem gOr_N (a b : Nat) : gOr (iN a) (iN b) = some (.fz (iN (a ||| b))) := by
  show some (R.fz (.int (bor _ _))) = _
  rw [boN]
@[simp] theorem gXor_N (a b : Nat) : gXor (iN a) (iN b) = some (.fz (iN (a ^^^ b))) := by
  show some (R.fz (.int (bxor _ _))) = _
  rw [bxN]
/-- -n -/
def ngD (n : Nat) : D := .int (-(n : Int))
/-- ~n -/
def inD' (n : Nat) : D := .int (bnot (n : Int))
@[simp low] theorem gNeg_i (i : Int) : gNeg (.int i) = some (.fz (.int (-i))) := nr rfl
@[simp low] theorem gInv_i (i : Int) : gInv (.int i) = some (.fz (.int (bnot i))) := nr rfl
@[simp] theorem gNeg_N (n : Nat) : gNeg (iN n) = some (.fz (ngD n)) := nr rfl
@[simp] theorem gInv_N (n : Nat) : gInv (iN n) = some (.fz (inD' n)) := nr rfl
@[simp] theorem gAnd_inv (a b : Nat) : gAnd (iN a) (inD' b) = some (.fz (iN (andN a b))) := by
  show some (R.fz (.int (band _ _))) = _
  rw [banN]
@[simp] theorem gAnd_neg {a : Nat} (h : 0 < a) : gAnd (iN a) (ngD a) = some (.fz (iN (2 ^ lsb a))) := by
  show some (R.fz (.int (band _ _))) = _
  rw [bandNeg h]
@[simp] theorem gBits_N (a : Nat) : gBits (iN a) = some (.fz (iN (blen a))) := by
  show some (R.fz (.int (ibits _ : Nat))) = _
  rw [ibitsN]
@[simp] theorem gLt_N (a b : Nat) : gLt (iN a) (iN b) = some (.fz (.bl (decide (a < b)))) := by
  show some (R.fz (.bl (decide ((a : Int) < b)))) = _
  simp only [Int.ofNat_lt]
@[simp] theorem gLe_N (a b : Nat) : gLe (iN a) (iN b) = some (.fz (.bl (decide (a ≤ b)))) := by
  show some (R.fz (.bl (decide ((a : Int) ≤ b)))) = _
  simp only [Int.ofNat_le]
@[simp] theorem gGt_N (a b : Nat) : gGt (iN a) (iN b) = some (.fz (.bl (decide (b < a)))) := by
  show some (R.fz (.bl (decide ((b : Int) < a)))) = _
  simp only [Int.ofNat_lt]
@[simp] theorem gGe_N (a b : Nat) : gGe (iN a) (iN b) = some (.fz (.bl (decide (b ≤ a)))) := by
  show some (R.fz (.bl (decide ((b : Int) ≤ a)))) = _
  simp only [Int.ofNat_le]
@[simp low] theorem gLt_i (a b : Int) : gLt (.int a) (.int b) = some (.fz (.bl (decide (a < b)))) := nr rfl
@[simp low] theorem gLe_i (a b : Int) : gLe (.int a) (.int b) = some (.fz (.bl (decide (a ≤ b)))) := nr rfl
@[simp low] theorem gGt_i (a b : Int) : gGt (.int a) (.int b) = some (.fz (.bl (decide (b < a)))) := nr rfl
@[simp low] theorem gGe_i (a b : Int) : gGe (.int a) (.int b) = some (.fz (.bl (decide (b ≤ a)))) := nr rfl
theorem eqD_int (x y : Int) : eqD (.int x) (.int y) = some (decide (x = y)) := by
  have : (x == y) = decide (x = y) := by rw [Bool.eq_iff_iff]; simp
  rw [← this]
  rfl
theorem gEq2_of {x y : D} {b : Bool} (h : eqD x y = some b) (h2 : gEqS x y = none) : gEq2 x y = some (.fz (.bl b)) := by
  unfold gEq2
  rw [orE_r h2]
  unfold gEq
  rw [h, Option.map_some]
theorem gNe2_of {x y : D} {b : Bool} (h : eqD x y = some b) (h2 : gNeS x y = none) : gNe2 x y = some (.fz (.bl (!b))) := by
  unfold gNe2
  rw [orE_r h2]
  unfold gNe
  rw [h, Option.map_some]
@[simp low] theorem gEq2_i (a b : Int) : gEq2 (.int a) (.int b) = some (.fz (.bl (decide (a = b)))) := gEq2_of (eqD_int a b) rfl
@[simp low] theorem gNe2_i (a b : Int) : gNe2 (.int a) (.int b) = some (.fz (.bl (!decide (a = b)))) := gNe2_of (eqD_int a b) rfl
@[simp] theorem gEq2_N (a b : Nat) : gEq2 (iN a) (iN b) = some (.fz (.bl (decide (a = b)))) := by
  rw [gEq2_i]
  simp only [Int.ofNat_inj]
@[simp] theorem gNe2_N (a b : Nat) : gNe2 (iN a) (iN b) = some (.fz (.bl (!decide (a = b)))) := by
  rw [gNe2_i]
  simp only [Int.ofNat_inj]
@[simp] theorem gEq2_str (x y : Str) : gEq2 (.str x) (.str y) = some (.fz (.bl (decide (x = y)))) := nr rfl
@[simp] theorem gNe2_str (x y : Str) : gNe2 (.str x) (.str y) = some (.fz (.bl (!decide (x = y)))) := nr rfl
@[simp] theorem truD_N (a : Nat) : truD (iN a) = some (decide (a ≠ 0)) := by
  show some ((a : Int) != 0) = _
  rw [bne, Option.some.injEq, Bool.eq_iff_iff]
  simp
@[simp] theorem gIsB_b (x : D) (b : Bool) : gIsB x (.bl b) = some (.fz (.bl (isBD x b))) := nr rfl
@[simp] theorem gNotB_b (x : D) (b : Bool) : gNotB x (.bl b) = some (.fz (.bl (!isBD x b))) := nr rfl
@[simp] theorem isBD_bl (c b : Bool) : isBD (.bl c) b = (c == b) := nr rfl
@[simp] theorem isBD_non (b : Bool) : isBD .non b = false := nr rfl
@[simp] theorem isBD_int (i : Int) (b : Bool) : isBD (.int i) b = false := nr rfl
@[simp] theorem isBD_lst (i : List D) (b : Bool) : isBD (.lst i) b = false := nr rfl
@[simp] theorem isBD_tup (i : List D) (b : Bool) : isBD (.tup i) b = false := nr rfl
@[simp] theorem gInt_N (a : Nat) : gInt [iN a] = some (.fz (iN a)) := nr rfl
@[simp] theorem gInt_b (b : Bool) : gInt [.bl b] = some (.fz (iN b.toNat)) := by cases b <;> rfl
@[simp] theorem gMax_N (a b : Nat) : gMax [iN a, iN b] = some (.fz (iN (max a b))) := by
  show some (R.fz (.int (if (b : Int) > a then (b : Int) else a))) = _
  congr 3
  by_cases h : a < b
  · rw [if_pos (by omega), Nat.max_eq_right (by omega)]
  · rw [if_neg (by omega), Nat.max_eq_left (by omega)]
@[simp] theorem gMin_N (a b : Nat) : gMin [iN a, iN b] = some (.fz (iN (min a b))) := by
  show some (R.fz (.int (if (b : Int) < a then (b : Int) else a))) = _
  congr 3
  by_cases h : b < a
  · rw [if_pos (by omega), Nat.min_eq_right (by omega)]
  · rw [if_neg (by omega), Nat.min_eq_left (by omega)]
@[simp] theorem gLen_lst (ds : List D) : gLen [.lst ds] = some (.fz (iN ds.length)) := nr rfl
@[simp] theorem gLen_tup (ds : List D) : gLen [.tup ds] = some (.fz (iN ds.length)) := nr rfl
@[simp] theorem gLen_dct (ds : List (Key × D)) : gLen [.dct ds] = some (.fz (iN ds.length)) := nr rfl
theorem atI_nat {α : Type} (xs : List α) (r : Nat) : atI xs (r : Int) = xs[r]? := by
  unfold L2.atI L2.ixN
  rw [if_pos (Int.natCast_nonneg r)]
  by_cases h : r < xs.length
  · rw [if_pos (Int.ofNat_lt.mpr h)]
    simp
  · rw [if_neg (by omega)]
    rw [Option.bind_none, List.getElem?_eq_none (by omega)]
theorem atI_last {α : Type} (xs : List α) : atI xs (-1) = xs.getLast? := by
  unfold L2.atI L2.ixN
  rw [if_neg (by decide)]
  by_cases h : xs = []
  · subst h; rfl
  · have hp := List.length_pos_iff.mpr h
    rw [if_pos (by omega), Option.bind_some, List.getLast?_eq_getElem?]
    congr 1
    omega
@[simp] theorem gIx_lst (ds : List D) (i : Nat) : gIx (.lst ds) (iN i) = ds[i]?.map R.fz := by
  show (atI ds (i : Int)).map R.fz = _
  rw [atI_nat]
@[simp] theorem gIx_tup (ds : List D) (i : Nat) : gIx (.tup ds) (iN i) = ds[i]?.map R.fz := by
  show (atI ds (i : Int)).map R.fz = _
  rw [atI_nat]
@[simp] theorem gIx_last (ds : List D) : gIx (.lst ds) (ngD 1) = ds.getLast?.map R.fz := by
  show (atI ds (-1)).map R.fz = _
  rw [atI_last]
@[simp] theorem keyD_N (i : Nat) : keyD (iN i) = some (.inl (i : Int)) := nr rfl
@[simp] theorem gIx_dct (kvs : List (Key × D)) (i : Nat) : gIx (.dct kvs) (iN i) = (valD kvs (.inl (i : Int))).map R.fz := nr rfl
@[simp] theorem goIx_lst (ds : List D) (i : Nat) : goIx (.lst ds) (iN i) = ds[i]? := by
  show atI ds (i : Int) = _
  rw [atI_nat]
@[simp] theorem goIx_dct (kvs : List (Key × D)) (i : Nat) : goIx (.dct kvs) (iN i) = valD kvs (.inl (i : Int)) := nr rfl
@[simp] theorem gPut_lst {ds : List D} {i : Nat} {d : D} (h : i < ds.length) : gPut (.lst ds) (iN i) d = some (.lst (ds.set i d)) := by
  show (ixN ds.length (i : Int)).map _ = _
  unfold L2.ixN
  rw [if_pos (Int.natCast_nonneg i), if_pos (Int.ofNat_lt.mpr h), Option.map_some, Int.toNat_natCast]
@[simp] theorem gPut_dct {kvs : List (Key × D)} {i : Nat} {d : D} (h : kvs.length ≤ 100000) : gPut (.dct kvs) (iN i) d = some (.dct (putD kvs (.inl (i : Int)) d)) := by
  show (if kvs.length ≤ 100000 then _ else _) = _
  rw [if_pos h]
@[simp] theorem gIn_dct (kvs : List (Key × D)) (i : Nat) : gIn (iN i) (.dct kvs) = some (.fz (.bl (valD kvs (.inl (i : Int))).isSome)) := nr rfl
@[simp] theorem gNotIn_dct (kvs : List (Key × D)) (i : Nat) : gNotIn (iN i) (.dct kvs) = some (.fz (.bl (!(valD kvs (.inl (i : Int))).isSome))) := nr rfl
@[simp] theorem gAppend_N {xs : List D} {y : D} (h : xs.length ≤ 100000) : gAppend (.lst xs) [y] = some (.lst (xs ++ [y]), .non) := by
  unfold gAppend
  exact if_pos h
@[simp] theorem gExtend_N {xs ys : List D} (h : xs.length + ys.length ≤ 100000) : gExtend (.lst xs) [.lst ys] = some (.lst (xs ++ ys), .non) := by
  unfold gExtend
  exact if_pos h
@[simp] theorem gPop0_N (xs : List D) : gPop0 (.lst xs) [] = xs.getLast?.map fun y => (.lst xs.dropLast, y) := by
  show (xs[xs.length - 1]?).map _ = _
  rw [List.getLast?_eq_getElem?]
theorem seqIx_N {n i : Nat} (h : i < n) : PySem.seqIndex? (i : Int) n = some i := by
  unfold PySem.seqIndex?
  have e : ¬ ((i : Int) < 0) := by omega
  simp [h, e]
theorem pop_bd {i : Nat} (h : i < 1000000) : decide (-(2 ^ 63) ≤ (i : Int) ∧ (i : Int) < 2 ^ 63) = true := decide_eq_true (by omega)
@[simp] theorem gPop1_N {xs : List D} {i : Nat} (h : i < xs.length) (h2 : i < 1000000) : gPop1 (.lst xs) [iN i] = some (.lst (xs.eraseIdx i), xs[i]) := by
  refine (gPop1.eq_1 xs (i : Int)).trans ((if_pos (pop_bd h2)).trans ?_)
  rw [seqIx_N h, Option.bind_some, List.getElem?_eq_getElem h, Option.map_some]
@[simp] theorem gList_lst (ds : List D) : gList [.lst ds] = some (.own (.lst ds)) := nr rfl
@[simp] theorem gList_tup (ds : List D) : gList [.tup ds] = some (.own (.lst ds)) := nr rfl
@[simp] theorem gList_dct (kvs : List (Key × D)) : gList [.dct kvs] = some (.own (.lst (kvs.map fun kv => keyV kv.1))) := nr rfl
@[simp] theorem gTuple_lst (ds : List D) : gTuple [.lst ds] = some (.own (.tup ds)) := nr rfl
@[simp high] theorem finPart_N (ρ : Env) (n : Nat) : finPart ρ (some (iN n)) = .ok ρ (some (nI n)) := nr rfl
@[simp] theorem gSl_drop (ds : List D) (a : Nat) : gSl (.lst ds) (some (nI a)) none = some (.own (.lst (ds.drop a))) := by
  show some (R.own (.lst (cutL ds _ _))) = _
  unfold cutL nI
  rw [HT.sIx_nat, HT.sIx_none]
  congr 3
  rcases Nat.le_total a ds.length with h | h
  · rw [Nat.min_eq_left h]
    exact List.take_of_length_le (by rw [List.length_drop]; omega)
  · rw [Nat.min_eq_right h, Nat.sub_self, List.take_zero, List.drop_of_length_le h]
@[simp] theorem gSl_take (ds : List D) (b : Nat) : gSl (.lst ds) none (some (nI b)) = some (.own (.lst (ds.take b))) := by
  show some (R.own (.lst (cutL ds _ _))) = _
  unfold cutL nI
  rw [HT.sIx_nat, HT.sIx_none, List.drop_zero, Nat.sub_zero]
  congr 3
  rcases Nat.le_total b ds.length with h | h
  · rw [Nat.min_eq_left h]
  · rw [Nat.min_eq_right h, List.take_of_length_le (Nat.le_refl _), List.take_of_length_le h]
@[simp] theorem gSl_all (ds : List D) : gSl (.lst ds) none none = some (.own (.lst ds)) := by
  show some (R.own (.lst (cutL ds _ _))) = _
  unfold cutL
  rw [HT.sIx_none, HT.sIx_none, List.drop_zero, Nat.sub_zero, List.take_length]
theorem intsD_N (xs : List Nat) : intsD (xs.map iN) = some (xs.map fun x : Nat => (x : Int)) := by
  induction xs with
  | nil => rfl
  | cons x xs ih => rw [List.map_cons, intsD, ih]; rfl
theorem sum_N (xs : List Nat) : (xs.map fun x : Nat => (x : Int)).sum = ((xs.sum : Nat) : Int) := by
  induction xs with
  | nil => rfl
  | cons x xs ih => rw [List.map_cons, List.sum_cons, List.sum_cons, ih, Int.natCast_add]
@[simp] theorem gSum_N (xs : List Nat) : gSum [.lst (xs.map iN)] = some (.fz (iN xs.sum)) := by
  show (intsD _).map _ = _
  rw [intsD_N, Option.map_some, sum_N]
theorem blsD_N (xs : List Bool) : blsD (xs.map D.bl) = some xs := by
  induction xs with
  | nil => rfl
  | cons x xs ih => rw [List.map_cons, blsD, ih]; rfl
@[simp] theorem gAll_N (xs : List Bool) : gAll [.lst (xs.map D.bl)] = some (.fz (.bl (xs.all id))) := by
  show (blsD _).map _ = _
  rw [blsD_N, Option.map_some]
@[simp] theorem gAny_N (xs : List Bool) : gAny [.lst (xs.map D.bl)] = some (.fz (.bl (xs.any id))) := by
  show (blsD _).map _ = _
  rw [blsD_N, Option.map_some]
theorem okR_N {n : Nat} (h : n ≤ 1000000) : okR (n : Int) = true := decide_eq_true (by omega)
@[simp] theorem rng1_N {n : Nat} (h : n ≤ 1000000) : rng1 [iN n] = some (0, 1, n) := (rng1.eq_1 _).trans ((if_pos (okR_N h)).trans (by rw [Int.toNat_natCast]))
theorem and_t {a b : Bool} (h : a = true) (h2 : b = true) : (a && b) = true := by rw [h, h2]; rfl
@[simp] theorem rng2_N {a b : Nat} (h : a ≤ 1000000) (h2 : b ≤ 1000000) : rng2 [iN a, iN b] = some (nI a, 1, b - a) :=
  (rng2.eq_1 _ _).trans ((if_pos (and_t (okR_N h) (okR_N h2))).trans (by unfold nI; rw [show ((b : Int) - a).toNat = b - a by omega]))
theorem okR_neg : okR (-1) = true := decide_eq_true (by omega)
@[simp] theorem rng3_N {a : Nat} (h : a ≤ 900000) : rng3 [iN a, ngD 1, ngD 1] = some (nI a, -1, a + 1) :=
  (rng3.eq_1 _ _ _).trans ((if_pos (and_t (and_t (okR_N (by omega)) okR_neg) (decide_eq_true rfl))).trans (by unfold nI; rw [show ((a : Int) - -((1 : Nat) : Int)).toNat = a + 1 by omega]))
theorem rngItems_up0 (n : Nat) : rngItems 0 1 n = (List.range n).map fun i => R.fz (iN i) := by
  unfold rngItems
  refine List.map_congr_left fun i _ => ?_
  rw [show (0 : Int) + (i : Int) * 1 = (i : Int) by omega]
theorem rngItems_up (a n : Nat) : rngItems (a : Int) 1 n = (List.range' a n).map fun i => R.fz (iN i) := by
  unfold rngItems
  rw [List.range'_eq_map_range, List.map_map]
  refine List.map_congr_left fun i _ => ?_
  rw [show (a : Int) + (i : Int) * 1 = ((a + i : Nat) : Int) by omega]
  rfl
theorem rngItems_down (a : Nat) : rngItems (a : Int) (-1) (a + 1) = (List.range (a + 1)).reverse.map fun i => R.fz (iN i) := by
  unfold rngItems
  apply List.ext_getElem
  · simp
  · intro i h1 h2
    simp at h1
    simp
    omega
/-- list(range(..)) -/
@[simp] theorem dRg1_N {f : Env → O R} {ρ ρ' : Env} {r : R} {n : Nat} (h : dN f ρ = .ok ρ' r) (h2 : useR ρ' r = some (iN n)) : dRg1 f ρ = .ok ρ' (0, (n : Int)) := by
  unfold dRg1
  rw [h]
  simp only [O.bind_ok, h2]
theorem rgD_N (n : Nat) : rgD 0 (n : Int) = (List.range n).map iN := by
  unfold rgD
  rw [Int.sub_zero, Int.toNat_natCast]
  refine List.map_congr_left fun k _ => ?_
  rw [Int.zero_add]
theorem rgOk0 {n : Nat} (h : n ≤ 1000000) : rgOk 0 (n : Int) = true := decide_eq_true (by omega)
end DN
namespace DN
open L2 (kitB atI ixN Key)
open PySem (PyData Str)
theorem mapIdx_c {α β : Type} (f : α → β) (xs : List α) : (xs.mapIdx fun _ x => f x) = xs.map f := by
  apply List.ext_getElem <;> simp
theorem mapIdx_m {α β γ : Type} (f : α → β) (g : Nat → β → γ) (xs : List α) : (xs.map f).mapIdx g = xs.mapIdx fun i x => g i (f x) := by
  apply List.ext_getElem <;> simp
/-- how a pass of a loop's body goes on: behind it P, with a return Q, with a break B -/
def GoesX (P : Env → Prop) (Q : Env → R → Prop) (B : Env → Prop) : O Fl → Prop
  | .ok ρ .nx => P ρ
  | .ok ρ .ct => P ρ
  | .ok ρ .bk => B ρ
  | .ok ρ (.rt r) => Q ρ r
  | _ => False
@[simp] theorem goesX_nx {P : Env → Prop} {Q : Env → R → Prop} {B : Env → Prop} {s : Sl} {t : List Sl} : GoesX P Q B (.ok (s :: t) .nx) = P (s :: t) := nr rfl
@[simp] theorem goesX_ct {P : Env → Prop} {Q : Env → R → Prop} {B : Env → Prop} {s : Sl} {t : List Sl} : GoesX P Q B (.ok (s :: t) .ct) = P (s :: t) := nr rfl
@[simp] theorem goesX_bk {P : Env → Prop} {Q : Env → R → Prop} {B : Env → Prop} {s : Sl} {t : List Sl} : GoesX P Q B (.ok (s :: t) .bk) = B (s :: t) := nr rfl
@[simp] theorem goesX_rt {P : Env → Prop} {Q : Env → R → Prop} {B : Env → Prop} {s : Sl} {t : List Sl} {r : R} : GoesX P Q B (.ok (s :: t) (.rt r)) = Q (s :: t) r := nr rfl
/-- ... neither return nor break -/
def Goes (P : Env → Prop) : O Fl → Prop
  | .ok ρ .nx => P ρ
  | .ok ρ .ct => P ρ
  | _ => False
@[simp] theorem goes_nx {P : Env → Prop} {s : Sl} {t : List Sl} : Goes P (.ok (s :: t) .nx) = P (s :: t) := nr rfl
@[simp] theorem goes_ct {P : Env → Prop} {s : Sl} {t : List Sl} : Goes P (.ok (s :: t) .ct) = P (s :: t) := nr rfl
theorem Goes.of {P : Env → Prop} {o : O Fl} {ρ : Env} (h : o = .ok ρ .nx) (p : P ρ) : Goes P o := by rw [h]; exact p
theorem Goes.inv {P : Env → Prop} {o : O Fl} (h : Goes P o) : ∃ ρ fl, o = .ok ρ fl ∧ (fl = .nx ∨ fl = .ct) ∧ P ρ := by
  unfold Goes at h
  split at h
  · exact ⟨_, _, rfl, .inl rfl, h⟩
  · exact ⟨_, _, rfl, .inr rfl, h⟩
  · exact h.elim
theorem bind_inv {α β : Type} {o : O α} {f : Env → α → O β} {ρ : Env} {b : β} (h : o.bind f = .ok ρ b) : ∃ ρ1 a, o = .ok ρ1 a ∧ f ρ1 a = .ok ρ b := by
  cases o with
  | ok ρ1 a => exact ⟨ρ1, a, rfl, h⟩
  | er ρ1 e => cases h
  | un => cases h
theorem loopL {α : Type} {g : Env → R → O Unit} {b : Env → O Fl} (e : Nat → α → R) (I : List α → Env → Prop) : ∀ (t d : List α) (ρ : Env), I d ρ →
    (∀ d' x t' ρ, d ++ t = d' ++ x :: t' → I d' ρ → Goes (I (d' ++ [x])) ((g ρ (e d'.length x)).bind fun ρ _ => b ρ)) →
    ∃ ρ', dLoop g b (t.mapIdx fun i x => e (d.length + i) x) ρ = .ok ρ' .nx ∧ I (d ++ t) ρ'
  | [], d, ρ, h, _ => ⟨ρ, rfl, by rw [List.append_nil]; exact h⟩
  | x :: t, d, ρ, h, st => by
    obtain ⟨ρ2, fl, e12, hf, h2⟩ := (st d x t ρ rfl h).inv
    obtain ⟨ρ1, u, e1, e2⟩ := bind_inv e12
    obtain ⟨ρ', e3, h3⟩ := loopL e I t (d ++ [x]) ρ2 h2 fun d' y t' ρ q hI => st d' y t' ρ (by rw [← q, List.append_assoc]; rfl) hI
    refine ⟨ρ', ?_, by rw [List.append_assoc] at h3; exact h3⟩
    rw [List.mapIdx_cons, Nat.add_zero]
    unfold dLoop
    rw [e1, O.bind_ok, e2, O.bind_ok]
    have : (t.mapIdx fun i y => e (d.length + (i + 1)) y) = t.mapIdx fun i y => e ((d ++ [x]).length + i) y := by
      congr 1
      funext i y
      rw [List.length_append, List.length_singleton]
      congr 1
      omega
    rw [this]
    rcases hf with rfl | rfl <;> exact e3
/-- the items of a list that are gone through -/
def fzs (ds : List D) : List R := ds.map .fz
@[simp] theorem itemsOf_lst (ds : List D) : itemsOf (.lst ds) = some (fzs ds) := nr rfl
@[simp] theorem itemsOf_tup (ds : List D) : itemsOf (.tup ds) = some (fzs ds) := nr rfl
@[simp] theorem rng_up0 (n : Nat) : rngItems 0 1 n = fzs ((List.range n).map iN) := by
  rw [rngItems_up0]
  unfold fzs
  rw [List.map_map]
  rfl
@[simp] theorem rng_up (a n : Nat) : rngItems (nI a) 1 n = fzs ((List.range' a n).map iN) := by
  unfold nI
  rw [rngItems_up]
  unfold fzs
  rw [List.map_map]
  rfl
@[simp] theorem rng_down (a : Nat) : rngItems (nI a) (-1) (a + 1) = fzs ((List.range (a + 1)).reverse.map iN) := by
  unfold nI
  rw [rngItems_down]
  unfold fzs
  rw [List.map_map]
  rfl
theorem loop_l {α : Type} {g : Env → R → O Unit} {b : Env → O Fl} (f : α → D) (I : List α → Env → Prop) {xs : List α} {ρ : Env} (h : I [] ρ)
    (st : ∀ d x t ρ, xs = d ++ x :: t → I d ρ → Goes (I (d ++ [x])) ((g ρ (.fz (f x))).bind fun ρ _ => b ρ)) : ∃ ρ', dLoop g b (fzs (xs.map f)) ρ = .ok ρ' .nx ∧ I xs ρ' := by
  obtain ⟨ρ', e, q⟩ := loopL (fun _ x => .fz (f x)) I xs [] ρ h st
  refine ⟨ρ', ?_, q⟩
  rw [← e, mapIdx_c]
  unfold fzs
  rw [List.map_map]
  rfl
theorem loop_e {α : Type} {g : Env → R → O Unit} {b : Env → O Fl} (f : α → D) (I : List α → Env → Prop) {xs : List α} {ρ : Env} (h : I [] ρ)
    (st : ∀ d x t ρ, xs = d ++ x :: t → I d ρ → Goes (I (d ++ [x])) ((g ρ (.tp [.fz (iN d.length), .fz (f x)])).bind fun ρ _ => b ρ)) : ∃ ρ', dLoop g b (enumItems (xs.map f)) ρ = .ok ρ' .nx ∧ I xs ρ' := by
  obtain ⟨ρ', e, q⟩ := loopL (fun i x => .tp [.fz (iN i), .fz (f x)]) I xs [] ρ h st
  refine ⟨ρ', ?_, q⟩
  rw [← e]
  unfold enumItems
  rw [mapIdx_m]
  congr 2
  funext i x
  simp
theorem GoesX.inv {P : Env → Prop} {Q : Env → R → Prop} {B : Env → Prop} {o : O Fl} (h : GoesX P Q B o) : ∃ ρ fl, o = .ok ρ fl ∧ (((fl = .nx ∨ fl = .ct) ∧ P ρ) ∨ (fl = .bk ∧ B ρ) ∨ ∃ r, fl = .rt r ∧ Q ρ r) := by
  unfold GoesX at h
  split at h
  · exact ⟨_, _, rfl, .inl ⟨.inl rfl, h⟩⟩
  · exact ⟨_, _, rfl, .inl ⟨.inr rfl, h⟩⟩
  · exact ⟨_, _, rfl, .inr (.inl ⟨rfl, h⟩)⟩
  · exact ⟨_, _, rfl, .inr (.inr ⟨_, rfl, h⟩)⟩
  · exact h.elim
/-- a loop that may end ahead: with a return (Q), with a break (B) -/
theorem loopX {α : Type} {g : Env → R → O Unit} {b : Env → O Fl} (e : Nat → α → R) (I : List α → Env → Prop) (Q : List α → α → List α → Env → R → Prop) (B : List α → α → List α → Env → Prop) : ∀ (t d : List α) (ρ : Env), I d ρ →
    (∀ d' x t' ρ, d ++ t = d' ++ x :: t' → I d' ρ → GoesX (I (d' ++ [x])) (Q d' x t') (B d' x t') ((g ρ (e d'.length x)).bind fun ρ _ => b ρ)) →
    ∃ ρ' fl, dLoop g b (t.mapIdx fun i x => e (d.length + i) x) ρ = .ok ρ' fl ∧ ((fl = .nx ∧ I (d ++ t) ρ') ∨ (fl = .nx ∧ ∃ d' x t', d ++ t = d' ++ x :: t' ∧ B d' x t' ρ') ∨ ∃ d' x t' r, d ++ t = d' ++ x :: t' ∧ fl = .rt r ∧ Q d' x t' ρ' r)
  | [], d, ρ, h, _ => ⟨ρ, .nx, rfl, .inl ⟨rfl, by rw [List.append_nil]; exact h⟩⟩
  | x :: t, d, ρ, h, st => by
    obtain ⟨ρ2, fl, e12, h2⟩ := (st d x t ρ rfl h).inv
    obtain ⟨ρ1, u, e1, e2⟩ := bind_inv e12
    rw [List.mapIdx_cons, Nat.add_zero]
    unfold dLoop
    rw [e1, O.bind_ok, e2, O.bind_ok]
    rcases h2 with ⟨hf, hI⟩ | ⟨rfl, hB⟩ | ⟨r, rfl, hq⟩
    · obtain ⟨ρ', fl', e3, h3⟩ := loopX e I Q B t (d ++ [x]) ρ2 hI fun d' y t' ρ q hI => st d' y t' ρ (by rw [← q, List.append_assoc]; rfl) hI
      have : (t.mapIdx fun i y => e (d.length + (i + 1)) y) = t.mapIdx fun i y => e ((d ++ [x]).length + i) y := by
        congr 1
        funext i y
        rw [List.length_append, List.length_singleton]
        congr 1
        omega
      have ea : d ++ [x] ++ t = d ++ x :: t := by rw [List.append_assoc]; rfl
      rw [ea] at h3
      rw [this]
      refine ⟨ρ', fl', ?_, h3⟩
      rcases hf with rfl | rfl <;> exact e3
    · exact ⟨ρ2, .nx, rfl, .inr (.inl ⟨rfl, d, x, t, rfl, hB⟩)⟩
    · exact ⟨ρ2, .rt r, rfl, .inr (.inr ⟨d, x, t, r, rfl, rfl, hq⟩)⟩
theorem fzs_idx {α : Type} (f : α → D) (xs : List α) : fzs (xs.map f) = xs.mapIdx fun i x => .fz (f x) := by
  rw [mapIdx_c]
  unfold fzs
  rw [List.map_map]
  rfl
theorem enum_idx {α : Type} (f : α → D) (xs : List α) : enumItems (xs.map f) = xs.mapIdx fun i x => .tp [.fz (iN i), .fz (f x)] := by
  unfold enumItems
  rw [mapIdx_m]
  congr 1
theorem loopX_l {α : Type} {g : Env → R → O Unit} {b : Env → O Fl} (f : α → D) (I : List α → Env → Prop) (Q : List α → α → List α → Env → R → Prop) (B : List α → α → List α → Env → Prop) {xs : List α} {ρ : Env} (h : I [] ρ)
    (st : ∀ d x t ρ, xs = d ++ x :: t → I d ρ → GoesX (I (d ++ [x])) (Q d x t) (B d x t) ((g ρ (.fz (f x))).bind fun ρ _ => b ρ)) :
    ∃ ρ' fl, dLoop g b (fzs (xs.map f)) ρ = .ok ρ' fl ∧ ((fl = .nx ∧ I xs ρ') ∨ (fl = .nx ∧ ∃ d x t, xs = d ++ x :: t ∧ B d x t ρ') ∨ ∃ d x t r, xs = d ++ x :: t ∧ fl = .rt r ∧ Q d x t ρ' r) := by
  have := loopX (fun _ x => .fz (f x)) I Q B xs [] ρ h st
  rw [fzs_idx]
  exact this
def lcFin (vs : List Nat) : O D → Option (Env × Option D)
  | .ok ρ d => some (wipeE ρ vs, some d)
  | _ => none
def lcIf (f : Env → O R) (vs : List Nat) : O Bool → Option (Env × Option D)
  | .ok ρ true => lcFin vs ((f ρ).bind DN.esc)
  | .ok ρ false => some (wipeE ρ vs, none)
  | _ => none
def lcSt (t : Env → O Bool) (f : Env → O R) (vs : List Nat) : O Unit → Option (Env × Option D)
  | .ok ρ _ => lcIf f vs (t ρ)
  | _ => none
/-- one item of a comprehension -/
def lcOne (g : Env → R → O Unit) (t : Env → O Bool) (f : Env → O R) (vs : List Nat) (ρ : Env) (r : R) : Option (Env × Option D) := lcSt t f vs (g ρ r)
@[simp] theorem zt_lcOne (g : Env → R → O Unit) (t : Env → O Bool) (f : Env → O R) (vs : List Nat) (s : Sl) (u : List Sl) (r : R) : lcOne g t f vs (s :: u) r = lcSt t f vs (g (s :: u) r) := nr rfl
@[simp] theorem zt_lcSt (t : Env → O Bool) (f : Env → O R) (vs : List Nat) (ρ : Env) (x : Unit) : lcSt t f vs (.ok ρ x) = lcIf f vs (t ρ) := nr rfl
@[simp] theorem zt_lcIfT (f : Env → O R) (vs : List Nat) (ρ : Env) : lcIf f vs (.ok ρ true) = lcFin vs ((f ρ).bind DN.esc) := nr rfl
@[simp] theorem zt_lcIfF (f : Env → O R) (vs : List Nat) (ρ : Env) : lcIf f vs (.ok ρ false) = some (wipeE ρ vs, none) := nr rfl
@[simp] theorem zt_lcFin (vs : List Nat) (ρ : Env) (d : D) : lcFin vs (.ok ρ d) = some (wipeE ρ vs, some d) := nr rfl
theorem lcLoop_cons {g : Env → R → O Unit} {t : Env → O Bool} {f : Env → O R} {vs : List Nat} {r : R} {rs : List R} {ρ ρ' : Env} {acc : List D} {o : Option D} (h : lcOne g t f vs ρ r = some (ρ', o)) (hl : acc.length < 100000) :
    lcLoop g t f vs (r :: rs) ρ acc = lcLoop g t f vs rs ρ' (acc ++ o.toList) := by
  unfold lcOne at h
  rw [lcLoop]
  cases e1 : g ρ r with
  | ok ρ1 u =>
    rw [e1, zt_lcSt] at h
    simp only
    cases e2 : t ρ1 with
    | ok ρ2 b =>
      rw [e2] at h
      cases b with
      | true =>
        rw [zt_lcIfT] at h
        simp only
        cases e3 : (f ρ2).bind DN.esc with
        | ok ρ3 d =>
          rw [e3, zt_lcFin] at h
          cases h
          simp only [hl, if_true, Option.toList_some]
        | er ρ3 e => rw [e3] at h; cases h
        | un => rw [e3] at h; cases h
      | false =>
        rw [zt_lcIfF] at h
        cases h
        simp only [Option.toList_none, List.append_nil]
    | er ρ2 e => rw [e2] at h; cases h
    | un => rw [e2] at h; cases h
  | er ρ1 e => rw [e1] at h; cases h
  | un => rw [e1] at h; cases h
/-- a comprehension with a state -/
theorem lcL {α : Type} {g : Env → R → O Unit} {t : Env → O Bool} {f : Env → O R} {vs : List Nat} (e : Nat → α → R) (I : List α → Env → List D → Prop) : ∀ (xs d : List α) (ρ : Env) (acc : List D), I d ρ acc →
    (∀ d' x t' ρ acc, d ++ xs = d' ++ x :: t' → I d' ρ acc → ∃ ρ' o, lcOne g t f vs ρ (e d'.length x) = some (ρ', o) ∧ acc.length < 100000 ∧ I (d' ++ [x]) ρ' (acc ++ o.toList)) →
    ∃ ρ' ds, lcLoop g t f vs (xs.mapIdx fun i x => e (d.length + i) x) ρ acc = some (ρ', ds) ∧ I (d ++ xs) ρ' ds
  | [], d, ρ, acc, h, _ => ⟨ρ, acc, rfl, by rw [List.append_nil]; exact h⟩
  | x :: xs, d, ρ, acc, h, st => by
    obtain ⟨ρ1, o, e1, hl, h2⟩ := st d x xs ρ acc rfl h
    obtain ⟨ρ', ds, e3, h3⟩ := lcL e I xs (d ++ [x]) ρ1 (acc ++ o.toList) h2 fun d' y t' ρ acc q hI => st d' y t' ρ acc (by rw [← q, List.append_assoc]; rfl) hI
    refine ⟨ρ', ds, ?_, by rw [List.append_assoc] at h3; exact h3⟩
    rw [List.mapIdx_cons, Nat.add_zero, lcLoop_cons e1 hl]
    have : (xs.mapIdx fun i y => e (d.length + (i + 1)) y) = xs.mapIdx fun i y => e ((d ++ [x]).length + i) y := by
      congr 1
      funext i y
      rw [List.length_append, List.length_singleton]
      congr 1
      omega
    rw [this]
    exact e3
/-- how one item of a comprehension goes -/
def LcGo (P : Env → List D → Prop) : Option (Env × Option D) → Prop
  | some (ρ, o) => P ρ o.toList
  | none => False
@[simp] theorem lcGo_t {P : Env → List D → Prop} {s : Sl} {t : List Sl} {d : D} : LcGo P (some (s :: t, some d)) = P (s :: t) [d] := nr rfl
@[simp] theorem lcGo_f {P : Env → List D → Prop} {s : Sl} {t : List Sl} : LcGo P (some (s :: t, none)) = P (s :: t) [] := nr rfl
theorem lc_st {α : Type} {g : Env → R → O Unit} {t : Env → O Bool} {f : Env → O R} {vs : List Nat} (e : α → D) (I : List α → Env → List D → Prop) {xs : List α} {ρ : Env} (h : I [] ρ []) (hl : ∀ d ρ acc, I d ρ acc → acc.length < 100000)
    (st : ∀ d x u ρ acc, xs = d ++ x :: u → I d ρ acc → LcGo (fun ρ' o => I (d ++ [x]) ρ' (acc ++ o)) (lcOne g t f vs ρ (.fz (e x)))) : ∃ ρ' ds, lcLoop g t f vs (fzs (xs.map e)) ρ [] = some (ρ', ds) ∧ I xs ρ' ds := by
  have := lcL (g := g) (t := t) (f := f) (vs := vs) (fun _ x => .fz (e x)) I xs [] ρ [] h fun d x u ρ acc hx hI => by
    have h1 := st d x u ρ acc hx hI
    unfold LcGo at h1
    split at h1
    · rename_i ρ' o e1
      exact ⟨ρ', o, e1, hl d ρ acc hI, h1⟩
    · exact h1.elim
  rw [fzs_idx]
  exact this
/-- [.. for x in xs] -/
theorem lc_map {α : Type} {g : Env → R → O Unit} {t : Env → O Bool} {f : Env → O R} {vs : List Nat} {ρ : Env} (e : α → D) (F : α → D) {xs : List α} (h : ∀ x ∈ xs, lcOne g t f vs ρ (.fz (e x)) = some (ρ, some (F x))) (hl : xs.length ≤ 100000) :
    lcLoop g t f vs (fzs (xs.map e)) ρ [] = some (ρ, xs.map F) := by
  have key : ∀ (ys : List α) (acc : List D), (∀ x ∈ ys, lcOne g t f vs ρ (.fz (e x)) = some (ρ, some (F x))) → acc.length + ys.length ≤ 100000 → lcLoop g t f vs (fzs (ys.map e)) ρ acc = some (ρ, acc ++ ys.map F) := by
    intro ys
    induction ys with
    | nil => intro acc _ _; rw [List.map_nil]; unfold fzs; rw [List.map_nil, lcLoop]; simp
    | cons y ys ih =>
      intro acc q ql
      have ql' : acc.length + (ys.length + 1) ≤ 100000 := by simpa using ql
      have := ih (acc ++ [F y]) (fun x hx => q x (List.mem_cons_of_mem _ hx)) (by simp; omega)
      rw [List.map_cons]
      show lcLoop g t f vs (.fz (e y) :: fzs (ys.map e)) ρ acc = _
      rw [lcLoop_cons (q y List.mem_cons_self) (by omega)]
      simpa using this
  simpa using key xs [] h (by simpa using hl)
/-- [.. for x in xs if ..] -/
theorem lc_filter {α : Type} {g : Env → R → O Unit} {t : Env → O Bool} {f : Env → O R} {vs : List Nat} {ρ : Env} (e : α → D) (p : α → Bool) (F : α → D) {xs : List α} (h : ∀ x ∈ xs, lcOne g t f vs ρ (.fz (e x)) = some (ρ, if p x = true then some (F x) else none)) (hl : xs.length ≤ 100000) :
    lcLoop g t f vs (fzs (xs.map e)) ρ [] = some (ρ, (xs.filter p).map F) := by
  have key : ∀ (ys : List α) (acc : List D), (∀ x ∈ ys, lcOne g t f vs ρ (.fz (e x)) = some (ρ, if p x = true then some (F x) else none)) → acc.length + ys.length ≤ 100000 → lcLoop g t f vs (fzs (ys.map e)) ρ acc = some (ρ, acc ++ (ys.filter p).map F) := by
    intro ys
    induction ys with
    | nil => intro acc _ _; rw [List.map_nil]; unfold fzs; rw [List.map_nil, lcLoop]; simp
    | cons y ys ih =>
      intro acc q ql
      have ql' : acc.length + (ys.length + 1) ≤ 100000 := by simpa using ql
      rw [List.map_cons]
      show lcLoop g t f vs (.fz (e y) :: fzs (ys.map e)) ρ acc = _
      rw [lcLoop_cons (q y List.mem_cons_self) (by omega)]
      by_cases hp : p y = true
      · rw [if_pos hp, ih _ (fun x hx => q x (List.mem_cons_of_mem _ hx)) (by simp; omega), List.filter_cons_of_pos hp]
        simp
      · rw [if_neg hp, ih _ (fun x hx => q x (List.mem_cons_of_mem _ hx)) (by simp; omega), List.filter_cons_of_neg hp]
        simp
  simpa using key xs [] h (by simpa using hl)
/-- [.. for k, x in enumerate(xs)] -/
theorem lc_enum {α : Type} {g : Env → R → O Unit} {t : Env → O Bool} {f : Env → O R} {vs : List Nat} {ρ : Env} (e : α → D) (p : Nat → α → Bool) (F : Nat → α → D) {xs : List α} (h : ∀ i x, xs[i]? = some x → lcOne g t f vs ρ (.tp [.fz (iN i), .fz (e x)]) = some (ρ, if p i x = true then some (F i x) else none)) (hl : xs.length ≤ 100000) :
    lcLoop g t f vs (enumItems (xs.map e)) ρ [] = some (ρ, ((xs.zipIdx.filter fun q => p q.2 q.1).map fun q => F q.2 q.1)) := by
  have key : ∀ (ys : List (α × Nat)) (acc : List D), (∀ q ∈ ys, lcOne g t f vs ρ (.tp [.fz (iN q.2), .fz (e q.1)]) = some (ρ, if p q.2 q.1 = true then some (F q.2 q.1) else none)) → acc.length + ys.length ≤ 100000 →
      lcLoop g t f vs (ys.map fun q => .tp [.fz (iN q.2), .fz (e q.1)]) ρ acc = some (ρ, acc ++ (ys.filter fun q => p q.2 q.1).map fun q => F q.2 q.1) := by
    intro ys
    induction ys with
    | nil => intro acc _ _; rw [List.map_nil, lcLoop]; simp
    | cons y ys ih =>
      intro acc q ql
      have ql' : acc.length + (ys.length + 1) ≤ 100000 := by simpa using ql
      rw [List.map_cons, lcLoop_cons (q y List.mem_cons_self) (by omega)]
      by_cases hp : p y.2 y.1 = true
      · rw [if_pos hp, ih _ (fun x hx => q x (List.mem_cons_of_mem _ hx)) (by simp; omega), List.filter_cons_of_pos (by exact hp)]
        simp
      · rw [if_neg hp, ih _ (fun x hx => q x (List.mem_cons_of_mem _ hx)) (by simp; omega), List.filter_cons_of_neg (by simpa using hp)]
        simp
  have := key xs.zipIdx [] (fun q hq => h q.2 q.1 (by
    have := List.mem_zipIdx_iff_getElem?.mp hq
    exact this)) (by simpa using hl)
  rw [enum_idx, List.mapIdx_eq_zipIdx_map]
  simpa using this
@[simp] def zs_wipeE_1 := fun (s : Sl) (t : List Sl) => nr (@wipeE.eq_1 (s :: t))
@[simp] def zs_wipeE_2 := fun (s : Sl) (t : List Sl) x1 x2 => nr (@wipeE.eq_2 (s :: t) x1 x2)
@[simp] def zs_restoreE_1 := fun (s : Sl) (t : List Sl) (s1 : Sl) (t1 : List Sl) => nr (@restoreE.eq_1 (s :: t) (s1 :: t1))
@[simp] def zs_restoreE_2 := fun (s : Sl) (t : List Sl) (s1 : Sl) (t1 : List Sl) x2 x3 => nr (@restoreE.eq_2 (s :: t) (s1 :: t1) x2 x3)
@[simp] def zs_dYes_1 := fun (s : Sl) (t : List Sl) => nr (show dYes (s :: t) = .ok (s :: t) true from rfl)
@[simp] def zs_isOwn_1 := fun x0 => nr (@isOwn.eq_1 x0)
@[simp] theorem isOwn_fz (d : D) : isOwn (.fz d) = false := nr rfl
@[simp] theorem isOwn_ln (d : D) : isOwn (.ln d) = false := nr rfl
@[simp] theorem isOwn_un : isOwn .un = false := nr rfl
@[simp] def zs_noOwnAt_1 := fun (s : Sl) (t : List Sl) x1 => nr (@noOwnAt.eq_1 (s :: t) x1)
def finLR (ρ : Env) : Option D → O R
  | some (.int n) => if rgOk 0 n = true then .ok ρ (.own (.lst (rgD 0 n))) else .un
  | _ => .un
@[simp] theorem zt_dLstRg1 (f : Env → O R) (s : Sl) (t : List Sl) : dLstRg (dRg1 f) (s :: t) = (dN f (s :: t)).bind fun ρ r => finLR ρ (useR ρ r) := by
  unfold dLstRg dRg1
  cases dN f (s :: t) with
  | ok ρ r =>
    rw [O.bind_ok, O.bind_ok]
    cases e : useR ρ r with
    | none => simp [finLR, O.bind]
    | some d => cases d <;> simp [finLR, O.bind]
  | er ρ e => rfl
  | un => rfl
@[simp] theorem finLR_N {ρ : Env} {n : Nat} (h : n ≤ 1000000) : finLR ρ (some (iN n)) = .ok ρ (.own (.lst ((List.range n).map iN))) := by
  refine (finLR.eq_1 ρ _).trans ((if_pos (rgOk0 h)).trans ?_)
  rw [rgD_N]
def finLR2 (ρ : Env) : Option D → Option D → O R
  | some (.int n), some (.int m) => if rgOk n m = true then .ok ρ (.own (.lst (rgD n m))) else .un
  | _, _ => .un
@[simp] theorem zt_dLstRg2 (f h : Env → O R) (s : Sl) (t : List Sl) : dLstRg (dRg2 f h) (s :: t) = (dN f (s :: t)).bind fun ρ r1 => (dN h ρ).bind fun ρ r2 => finLR2 ρ (useR ρ r1) (useR ρ r2) := by
  unfold dLstRg dRg2
  cases dN f (s :: t) with
  | ok ρ r =>
    rw [O.bind_ok, O.bind_ok]
    cases dN h ρ with
    | ok ρ2 r2 =>
      rw [O.bind_ok, O.bind_ok]
      cases e : useR ρ2 r with
      | none => simp [finLR2, O.bind]
      | some d =>
        cases e2 : useR ρ2 r2 with
        | none => cases d <;> simp [finLR2, O.bind]
        | some d2 => cases d <;> cases d2 <;> simp [finLR2, O.bind]
    | er ρ e => rfl
    | un => rfl
  | er ρ e => rfl
  | un => rfl
theorem rgOk2 {a c : Nat} (h : a ≤ 1000000) (h2 : c ≤ 1000000) : rgOk (a : Int) (c : Int) = true := decide_eq_true (by omega)
@[simp] theorem finLR2_N {ρ : Env} {a c : Nat} (h : a ≤ 1000000) (h2 : c ≤ 1000000) : finLR2 ρ (some (iN a)) (some (iN c)) = .ok ρ (.own (.lst ((List.range' a (c - a)).map iN))) := by
  refine (finLR2.eq_1 ρ _ _).trans ((if_pos (rgOk2 h h2)).trans ?_)
  unfold rgD
  rw [List.range'_eq_map_range, List.map_map, show ((c : Int) - a).toNat = c - a by omega]
  rfl
theorem lstRep_1 {d : D} {n : Nat} (h : n ≤ 100000) : lstRep (.lst [d]) (iN n) = some (.own (.lst (List.replicate n d))) := by
  refine (lstRep.eq_1 _ _).trans ((if_pos ⟨by omega, by omega, by rw [Int.toNat_natCast]; simp; omega⟩).trans ?_)
  rw [Int.toNat_natCast]
  congr 3
  induction n with
  | zero => rfl
  | succ n ih => rw [List.replicate_succ, List.replicate_succ, List.flatten_cons, ih (by omega)]; rfl
@[simp] theorem gMul_rep {d : D} {n : Nat} (h : n ≤ 100000) : gMul (.lst [d]) (iN n) = some (.own (.lst (List.replicate n d))) := by
  unfold gMul
  rw [orE_r (by rfl)]
  exact lstRep_1 h
def finLc (ρ : Env) (vs : List Nat) : Option (Env × List D) → O R
  | some (ρ', ds) => .ok (restoreE ρ ρ' vs) (.own (.lst ds))
  | none => .un
@[simp] theorem zt_dLc (fi : Env → O (List R)) (g : Env → R → O Unit) (t : Env → O Bool) (f : Env → O R) (vs : List Nat) (s : Sl) (u : List Sl) : dLc fi g t f vs (s :: u) = (fi (s :: u)).bind fun ρ items => if noOwnAt ρ vs = true then finLc ρ vs (lcLoop g t f vs items (wipeE ρ vs) []) else .un := by
  unfold dLc
  congr 1
@[simp] theorem zt_finLc (ρ ρ' : Env) (vs : List Nat) (ds : List D) : finLc ρ vs (some (ρ', ds)) = .ok (restoreE ρ ρ' vs) (.own (.lst ds)) := nr rfl
@[simp] theorem swaps_nil {α : Type} (xs : List α) : swaps [] xs = xs := nr rfl
def WGo (T F : Env → Prop) : O Bool → Prop
  | .ok ρ true => T ρ
  | .ok ρ false => F ρ
  | _ => False
@[simp] theorem wgo_t {T F : Env → Prop} {s : Sl} {t : List Sl} : WGo T F (.ok (s :: t) true) = T (s :: t) := nr rfl
@[simp] theorem wgo_f {T F : Env → Prop} {s : Sl} {t : List Sl} : WGo T F (.ok (s :: t) false) = F (s :: t) := nr rfl
@[simp] theorem wgo_d {T F : Env → Prop} {s : Sl} {t : List Sl} {p : Prop} [Decidable p] : WGo T F (.ok (s :: t) (decide p)) = if p then T (s :: t) else F (s :: t) := by
  by_cases h : p <;> simp [h]
@[simp] theorem wgo_n {T F : Env → Prop} {s : Sl} {t : List Sl} {p : Prop} [Decidable p] : WGo T F (.ok (s :: t) (!decide p)) = if p then F (s :: t) else T (s :: t) := by
  by_cases h : p <;> simp [h]
theorem WGo.inv {T F : Env → Prop} {o : O Bool} (h : WGo T F o) : ∃ ρ b, o = .ok ρ b ∧ (if b = true then T ρ else F ρ) := by
  unfold WGo at h
  split at h
  · exact ⟨_, true, rfl, by simpa using h⟩
  · exact ⟨_, false, rfl, by simpa using h⟩
  · exact h.elim
theorem while_ok {c : Env → O Bool} {b : Env → O Fl} (I : Nat → Env → Prop) (Q : Env → Prop)
    (st : ∀ n ρ, I n ρ → WGo (fun ρ1 => Goes (fun ρ2 => ∃ m, m < n ∧ I m ρ2) (b ρ1)) Q (c ρ)) : ∀ (k n : Nat) (ρ : Env), n < k → I n ρ → ∃ ρ', dWhile c b k ρ = .ok ρ' .nx ∧ Q ρ'
  | 0, _, _, h, _ => absurd h (Nat.not_lt_zero _)
  | k + 1, n, ρ, h, hI => by
    obtain ⟨ρ1, v, e1, h1⟩ := (st n ρ hI).inv
    unfold dWhile
    rw [e1, O.bind_ok]
    cases v with
    | false => exact ⟨ρ1, rfl, by simpa using h1⟩
    | true =>
      obtain ⟨ρ2, fl, e2, hf, m, hm, h2⟩ := (show Goes _ (b ρ1) by simpa using h1).inv
      rw [if_pos rfl, e2, O.bind_ok]
      obtain ⟨ρ', e3, h3⟩ := while_ok I Q st k m ρ2 (by omega) h2
      refine ⟨ρ', ?_, h3⟩
      rcases hf with rfl | rfl <;> exact e3
theorem while_fuel {c : Env → O Bool} {b : Env → O Fl} (I : Nat → Env → Prop) (Q : Env → Prop) {n : Nat} {ρ : Env} (hn : n < 100000) (h : I n ρ)
    (st : ∀ n ρ, I n ρ → WGo (fun ρ1 => Goes (fun ρ2 => ∃ m, m < n ∧ I m ρ2) (b ρ1)) Q (c ρ)) : ∃ ρ', dWhile c b fuel ρ = .ok ρ' .nx ∧ Q ρ' := while_ok I Q st fuel n ρ hn h
class Enc (α : Type) where
  enc : α → D
  pyo : α → PyData
  dep : Nat
  okx : α → Prop
  siz : α → Nat
  h_py : ∀ x, py (enc x) = some (pyo x)
  h_lay : ∀ x, (pyo x).canLay0 = true
  h_dep : ∀ x, (pyo x).depth ≤ dep
  h_eqv : ∀ x y, PyData.eqv (pyo x) (pyo y) = true ↔ x = y
  h_show : ∀ x, okx x → (pyo x).showable = true ∧ (pyo x).shown.length ≤ siz x
theorem shown_nat {x k : Nat} (h : x < 2 ^ k) (hk : k ≤ 1900) : ((x : Int).natAbs.log2 < 1920) ∧ (PyData.shown (.int (x : Int))).length ≤ k + 2 := by
  have hx : (x : Int).natAbs.log2 < k + 1 := by
    rw [Int.natAbs_natCast]
    by_cases h0 : x = 0
    · subst h0
      show Nat.log2 0 < _
      rw [Nat.log2_zero]
      omega
    · exact Nat.lt_succ_of_lt ((Nat.log2_lt h0).mpr h)
  refine ⟨by omega, ?_⟩
  have := PySem.int_text_length_le (a := (x : Int)) (k := k + 1) (by omega) hx
  rw [PyData.shown]
  show (Str.ofString (toString (x : Int))).length ≤ _
  rw [PySem.ofString_length]
  exact this
instance : Enc Nat where
  enc x := iN x
  pyo x := .int x
  dep := 0
  okx x := x < 2 ^ 1900
  siz x := x.log2 + 3
  h_py _ := rfl
  h_lay _ := rfl
  h_dep _ := Nat.le_refl _
  h_eqv x y := by
    rw [PyData.eqv, beq_iff_eq]
    exact Int.ofNat_inj
  h_show x h := by
    have h1 : x.log2 + 1 ≤ 1900 := by
      by_cases h0 : x = 0
      · subst h0; rw [Nat.log2_zero]; omega
      · exact (Nat.log2_lt h0).mpr h
    obtain ⟨a, b⟩ := shown_nat (x := x) (k := x.log2 + 1) Nat.lt_log2_self h1
    exact ⟨decide_eq_true a, b⟩
instance : Enc Bool where
  enc x := .bl x
  pyo x := .bool x
  dep := 0
  okx _ := True
  siz _ := 5
  h_py _ := rfl
  h_lay _ := rfl
  h_dep _ := Nat.le_refl _
  h_eqv x y := by
    rw [PyData.eqv, beq_iff_eq]
  h_show x h := by cases x <;> decide
section
variable {α : Type} [Enc α]
theorem pys_enc : ∀ xs : List α, pys (xs.map Enc.enc) = some (xs.map Enc.pyo)
  | [] => rfl
  | x :: xs => by
    rw [List.map_cons, pys, Enc.h_py, pys_enc xs]
    rfl
theorem lay_enc : ∀ xs : List α, PyData.canLayAll0 (xs.map Enc.pyo) = true
  | [] => rfl
  | x :: xs => by rw [List.map_cons, PyData.canLayAll0, Enc.h_lay, lay_enc xs]; rfl
theorem dep_enc : ∀ xs : List α, PyData.depthAll (xs.map Enc.pyo) ≤ Enc.dep α
  | [] => Nat.zero_le _
  | x :: xs => by
    rw [List.map_cons, PyData.depthAll]
    exact Nat.max_le.mpr ⟨Enc.h_dep x, dep_enc xs⟩
theorem eqv_enc : ∀ xs ys : List α, PyData.eqvAll (xs.map Enc.pyo) (ys.map Enc.pyo) = true ↔ xs = ys
  | [], [] => by simp [PyData.eqvAll]
  | [], y :: ys => by simp [PyData.eqvAll]
  | x :: xs, [] => by simp [PyData.eqvAll]
  | x :: xs, y :: ys => by
    rw [List.map_cons, List.map_cons, PyData.eqvAll, Bool.and_eq_true, eqv_enc xs ys, Enc.h_eqv, List.cons.injEq]
theorem show_enc : ∀ xs : List α, (∀ x ∈ xs, Enc.okx x) → PyData.showableAll (xs.map Enc.pyo) = true ∧ ((PyData.shownAll (xs.map Enc.pyo)).map (·.length)).sum ≤ (xs.map Enc.siz).sum ∧ (PyData.shownAll (xs.map Enc.pyo)).length = xs.length
  | [], _ => ⟨rfl, Nat.le_refl _, rfl⟩
  | x :: xs, h => by
    obtain ⟨h1, h2, h3⟩ := show_enc xs fun y hy => h y (List.mem_cons_of_mem _ hy)
    obtain ⟨k1, k2⟩ := Enc.h_show x (h x List.mem_cons_self)
    refine ⟨?_, ?_, ?_⟩
    · rw [List.map_cons, PyData.showableAll, h1, k1]; rfl
    · simp only [PyData.shownAll, List.map_cons, List.sum_cons]; omega
    · simp [PyData.shownAll, h3]
instance : Enc (List α) where
  enc xs := .lst (xs.map Enc.enc)
  pyo xs := .list (xs.map Enc.pyo)
  dep := Enc.dep α + 1
  okx xs := ∀ x ∈ xs, Enc.okx x
  siz xs := (xs.map Enc.siz).sum + 2 * xs.length + 3
  h_py xs := by
    rw [py.eq_def]
    show (pys (xs.map Enc.enc)).map PyData.list = _
    rw [pys_enc]
    rfl
  h_lay xs := by rw [PyData.canLay0]; exact lay_enc xs
  h_dep xs := by
    rw [PyData.depth]
    have := dep_enc xs
    omega
  h_eqv xs ys := by rw [PyData.eqv]; exact eqv_enc xs ys
  h_show xs h := by
    obtain ⟨h1, h2, h3⟩ := show_enc xs h
    have := PySem.listText_len_le (PyData.shownAll (xs.map Enc.pyo))
    refine ⟨?_, ?_⟩
    · rw [PyData.showable]; exact h1
    · rw [PyData.shown]; omega
end
section
variable {α β γ : Type} [Enc α] [Enc β] [Enc γ]
instance : Enc (α × β) where
  enc p := .tup [Enc.enc p.1, Enc.enc p.2]
  pyo p := .tuple [Enc.pyo p.1, Enc.pyo p.2]
  dep := max (Enc.dep α) (Enc.dep β) + 1
  okx p := Enc.okx p.1 ∧ Enc.okx p.2
  siz p := Enc.siz p.1 + Enc.siz p.2 + 7
  h_py p := by
    rw [py.eq_def]
    show (pys [Enc.enc p.1, Enc.enc p.2]).map PyData.tuple = _
    rw [pys, pys, pys, Enc.h_py, Enc.h_py]
    rfl
  h_lay p := by rw [PyData.canLay0, PyData.canLayAll0, PyData.canLayAll0, PyData.canLayAll0, Enc.h_lay, Enc.h_lay]; rfl
  h_dep p := by
    rw [PyData.depth, PyData.depthAll, PyData.depthAll, PyData.depthAll]
    have := Enc.h_dep p.1
    have := Enc.h_dep p.2
    omega
  h_eqv p q := by
    rw [PyData.eqv, PyData.eqvAll, PyData.eqvAll, PyData.eqvAll, Bool.and_true, Bool.and_eq_true, Enc.h_eqv, Enc.h_eqv, Prod.ext_iff]
  h_show p h := by
    obtain ⟨a1, a2⟩ := Enc.h_show p.1 h.1
    obtain ⟨b1, b2⟩ := Enc.h_show p.2 h.2
    have := PySem.tupleText_len_le (PyData.shownAll [Enc.pyo p.1, Enc.pyo p.2])
    refine ⟨?_, ?_⟩
    · rw [PyData.showable, PyData.showableAll, PyData.showableAll, PyData.showableAll, a1, b1]; rfl
    · rw [PyData.shown]
      simp only [PyData.shownAll, List.map_cons, List.map_nil, List.sum_cons, List.sum_nil, List.length_cons, List.length_nil] at this ⊢
      omega
end
/-- a tuple of three -/
structure Tri where
  a : Nat
  b : Nat
  c : Nat
  deriving DecidableEq, Inhabited
def tri (t : Tri) : D := .tup [iN t.a, iN t.b, iN t.c]
instance : Enc Tri where
  enc t := tri t
  pyo t := .tuple [.int t.a, .int t.b, .int t.c]
  dep := 1
  okx t := t.a < 2 ^ 1900 ∧ t.b < 2 ^ 1900 ∧ t.c < 2 ^ 1900
  siz t := t.a.log2 + t.b.log2 + t.c.log2 + 20
  h_py _ := rfl
  h_lay _ := rfl
  h_dep _ := by simp [PyData.depth, PyData.depthAll]
  h_eqv x y := by
    cases x; cases y
    simp [PyData.eqv, PyData.eqvAll]
    omega
  h_show t h := by
    obtain ⟨a1, a2⟩ := Enc.h_show t.a h.1
    obtain ⟨b1, b2⟩ := Enc.h_show t.b h.2.1
    obtain ⟨c1, c2⟩ := Enc.h_show t.c h.2.2
    have := PySem.tupleText_len_le (PyData.shownAll [Enc.pyo t.a, Enc.pyo t.b, Enc.pyo t.c])
    refine ⟨?_, ?_⟩
    · rw [PyData.showable, PyData.showableAll, PyData.showableAll, PyData.showableAll, PyData.showableAll]
      exact and_t a1 (and_t b1 (and_t c1 rfl))
    · rw [PyData.shown]
      simp only [PyData.shownAll, List.map_cons, List.map_nil, List.sum_cons, List.sum_nil, List.length_cons, List.length_nil] at this ⊢
      have e1 : Enc.siz t.a = t.a.log2 + 3 := rfl
      have e2 : Enc.siz t.b = t.b.log2 + 3 := rfl
      have e3 : Enc.siz t.c = t.c.log2 + 3 := rfl
      have f1 : (PyData.int (t.a : Int)).shown = (Enc.pyo t.a).shown := rfl
      have f2 : (PyData.int (t.b : Int)).shown = (Enc.pyo t.b).shown := rfl
      have f3 : (PyData.int (t.c : Int)).shown = (Enc.pyo t.c).shown := rfl
      rw [f1, f2, f3]
      omega
section
variable {α : Type} [Enc α] [DecidableEq α]
theorem eqD_enc (hd : Enc.dep α ≤ 64) (x y : α) : eqD (Enc.enc x) (Enc.enc y) = some (decide (x = y)) := by
  unfold eqD
  rw [Enc.h_py, Enc.h_py]
  have s : ∀ x : α, PySem.SeqAt.shaped (Enc.pyo x) = true := fun x => by
    unfold PySem.SeqAt.shaped
    rw [Enc.h_lay, Bool.true_and, decide_eq_true_eq]
    exact Nat.le_trans (Enc.h_dep x) hd
  simp only [s, Bool.and_self, if_true, Option.some.injEq]
  rw [Bool.eq_iff_iff, Enc.h_eqv, decide_eq_true_eq]
theorem gEqS_lst (xs : List D) (y : D) : gEqS (.lst xs) y = none := by cases y <;> rfl
theorem gNeS_lst (xs : List D) (y : D) : gNeS (.lst xs) y = none := by cases y <;> rfl
theorem gEqS_tup (xs : List D) (y : D) : gEqS (.tup xs) y = none := by cases y <;> rfl
theorem gNeS_tup (xs : List D) (y : D) : gNeS (.tup xs) y = none := by cases y <;> rfl
end
def tN (p : Nat × Nat) : D := .tup [iN p.1, iN p.2]
/-- a mapping -/
def mpD (p : List Nat × Nat) : D := .tup [.lst (p.1.map iN), iN p.2]
section
@[simp] theorem gEq2_Ns (x y : List Nat) : gEq2 (.lst (x.map iN)) (.lst (y.map iN)) = some (.fz (.bl (decide (x = y)))) := gEq2_of (eqD_enc (by decide) x y) (gEqS_lst _ _)
@[simp] theorem gNe2_Ns (x y : List Nat) : gNe2 (.lst (x.map iN)) (.lst (y.map iN)) = some (.fz (.bl (!decide (x = y)))) := gNe2_of (eqD_enc (by decide) x y) (gNeS_lst _ _)
@[simp] theorem gEq2_N0 (x : List Nat) : gEq2 (.lst (x.map iN)) (.lst []) = some (.fz (.bl (decide (x = [])))) := gEq2_Ns x []
@[simp] theorem gNe2_N0 (x : List Nat) : gNe2 (.lst (x.map iN)) (.lst []) = some (.fz (.bl (!decide (x = [])))) := gNe2_Ns x []
@[simp] theorem gNe2_00 : gNe2 (.lst []) (.lst []) = some (.fz (.bl false)) := gNe2_Ns [] []
@[simp] theorem gEq2_00 : gEq2 (.lst []) (.lst []) = some (.fz (.bl true)) := gEq2_Ns [] []
@[simp] theorem gEq2_tri (x y : Tri) : gEq2 (tri x) (tri y) = some (.fz (.bl (decide (x = y)))) := gEq2_of (eqD_enc (by decide) x y) (gEqS_tup _ _)
@[simp] theorem gEq2_tris (x y : List Tri) : gEq2 (.lst (x.map tri)) (.lst (y.map tri)) = some (.fz (.bl (decide (x = y)))) := gEq2_of (eqD_enc (by decide) x y) (gEqS_lst _ _)
@[simp] theorem gNe2_tris (x y : List Tri) : gNe2 (.lst (x.map tri)) (.lst (y.map tri)) = some (.fz (.bl (!decide (x = y)))) := gNe2_of (eqD_enc (by decide) x y) (gNeS_lst _ _)
@[simp] theorem gEq2_tN (x y : Nat × Nat) : gEq2 (tN x) (tN y) = some (.fz (.bl (decide (x = y)))) := gEq2_of (eqD_enc (by decide) x y) (gEqS_tup _ _)
@[simp] theorem gEq2_mp (x y : List Nat × Nat) : gEq2 (mpD x) (mpD y) = some (.fz (.bl (decide (x = y)))) := gEq2_of (eqD_enc (by decide) x y) (gEqS_tup _ _)
@[simp] theorem gNe2_mp (x y : List Nat × Nat) : gNe2 (mpD x) (mpD y) = some (.fz (.bl (!decide (x = y)))) := gNe2_of (eqD_enc (by decide) x y) (gNeS_tup _ _)
instance : Enc Int where
  enc x := .int x
  pyo x := .int x
  dep := 0
  okx x := x.natAbs < 2 ^ 1900
  siz x := x.natAbs.log2 + 3
  h_py _ := rfl
  h_lay _ := rfl
  h_dep _ := Nat.le_refl _
  h_eqv x y := by
    rw [PyData.eqv, beq_iff_eq]
  h_show x h := by
    have h1 : x.natAbs.log2 + 1 ≤ 1900 := by
      by_cases h0 : x.natAbs = 0
      · rw [h0, Nat.log2_zero]; omega
      · exact (Nat.log2_lt h0).mpr h
    have := PySem.int_text_length_le (a := x) (k := x.natAbs.log2 + 1) (by omega) (by omega)
    refine ⟨decide_eq_true (by omega), ?_⟩
    rw [PyData.shown]
    show (Str.ofString (toString x)).length ≤ _
    rw [PySem.ofString_length]
    omega
@[simp] theorem gNe2_I0 (x : List Int) : gNe2 (.lst (x.map D.int)) (.lst []) = some (.fz (.bl (!decide (x = [])))) := gNe2_of (eqD_enc (α := List Int) (by decide) x []) (gNeS_lst _ _)
@[simp] theorem gEq2_I0 (x : List Int) : gEq2 (.lst (x.map D.int)) (.lst []) = some (.fz (.bl (decide (x = [])))) := gEq2_of (eqD_enc (α := List Int) (by decide) x []) (gEqS_lst _ _)
end
end DN
namespace PG
open PySem PySem.Spec PyProof.Rows L2 DN
def b__law_draw : DN.Env → O Fl := (dSeq (dIfS (dTest (dOp gGt (dOp gIx (dVar 0) (dC (iN 0))) (dC (iN 0)))) (dSeq (dAsg (store 2) (dOp gMod (dCB gInt (dConsN (dOp gIx (dVar 0) (dC (iN 0))) dNil)) (dVar 1)))
    (dSeq (dSetI 0 gPut (dC (iN 0)) (dOp gDiv (dOp gIx (dVar 0) (dC (iN 0))) (dVar 1)))
    (dRet (dVar 2)))) dNext)
    (dSeq (dSetI 0 gPut (dC (iN 2)) (dOp gAdd (dOp gIx (dVar 0) (dC (iN 2))) (dC (iN 1))))
    (dSeq (dAsg (store 3) (dOp gMod (dCB gInt (dConsN (dOp gPow (dOp gAdd (dOp gIx (dVar 0) (dC (iN 1))) (dOp gMul (dC (iN 700001)) (dOp gIx (dVar 0) (dC (iN 2))))) (dC (iN 3))) dNil)) (dOp gAdd (dOp gPow (dC (iN 10)) (dC (iN 39))) (dC (iN 3)))))
    (dSeq (dAsg (store 3) (dOp gMod (dCB gInt (dConsN (dOp gPow (dOp gAdd (dOp gMul (dVar 3) (dOp gIx (dVar 0) (dC (iN 2)))) (dC (iN 90031))) (dC (iN 3))) dNil)) (dOp gAdd (dOp gPow (dC (iN 10)) (dC (iN 41))) (dC (iN 81)))))
    (dRet (dOp gMod (dCB gInt (dConsN (dOp gDiv (dVar 3) (dC (iN 131101))) dNil)) (dVar 1)))))))
def d__law_draw : List D → FO := denF [.io, .ln] 4 b__law_draw
def x__law_odd_1 : DN.Env → O Bool := (dTest (dOp gGt (dVar 0) (dC (iN 0))))
def x__law_odd_2 : DN.Env → O Fl := (dSeq (dAsg (store 0) (dOp gAnd (dVar 0) (dOp gSub (dVar 0) (dC (iN 1)))))
    (dAsg (store 1) (dOp gSub (dC (iN 1)) (dVar 1))))
def b__law_odd : DN.Env → O Fl := (dSeq (dAsg (store 1) (dC (iN 0)))
    (dSeq (dWhile x__law_odd_1 x__law_odd_2 fuel)
    (dRet (dVar 1))))
def d__law_odd : List D → FO := denF [.ln] 2 b__law_odd
def b__law_source : DN.Env → O Fl := (dSeq (dAsg (store 2) (dCB gAbs (dConsN (dVar 0) dNil)))
    (dRet (dLst (dCons (dCB gMax (dConsN (dC (iN 0)) (dConsN (dOp gSub (dVar 2) (dOp gPow (dC (iN 10)) (dC (iN 18)))) dNil))) (dCons (dOp gAdd (dOp gAdd (dOp gMul (dOp gMod (dCB gInt (dConsN (dVar 2) dNil)) (dOp gAdd (dOp gPow (dC (iN 10)) (dC (iN 43))) (dC (iN 57)))) (dC (iN 89))) (dOp gMul (dC (iN 2)) (dVar 1))) (dCB gInt (dConsN (dOp gLt (dVar 0) (dC (iN 0))) dNil))) (dCons (dC (iN 0)) dNil))))))
def d__law_source : List D → FO := denF [.ln, .ln] 3 b__law_source
def x__law_unlike_1 : DN.Env → O Fl := (dAsg (store 3) (dOp gOr (dVar 3) (dOp gShl (dCB gInt (dConsN (dOp gNe2 (dVar 5) (dOp gShl (dC (iN 1)) (dVar 4))) dNil)) (dVar 4))))
def b__law_unlike : DN.Env → O Fl := (dSeq (dAsg (storeN [1, 2]) (dVar 0))
    (dSeq (dAsg (store 3) (dVar 2))
    (dSeq (dLendS 1 (dFor (dEnLn 1) (storeN [4, 5]) x__law_unlike_1))
    (dRet (dVar 3)))))
def d__law_unlike : List D → FO := denF [.fz] 6 b__law_unlike
def x__law_width_1 : DN.Env → O Bool := (dTest (dOp gGt (dVar 0) (dC (iN 0))))
def x__law_width_2 : DN.Env → O Fl := (dSeq (dAsg (store 0) (dOp gAnd (dVar 0) (dOp gSub (dVar 0) (dC (iN 1)))))
    (dAsg (store 1) (dOp gAdd (dVar 1) (dC (iN 1)))))
def b__law_width : DN.Env → O Fl := (dSeq (dAsg (store 1) (dC (iN 0)))
    (dSeq (dWhile x__law_width_1 x__law_width_2 fuel)
    (dRet (dVar 1))))
def d__law_width : List D → FO := denF [.ln] 2 b__law_width
def x_bits_of_1 : DN.Env → O Bool := (dTest (dOp gEq2 (dOp gAnd (dOp gShr (dVar 0) (dVar 1)) (dC (iN 1))) (dC (iN 1))))
def b_bits_of : DN.Env → O Fl := (dRet (dLc (dRng rng1 (dCons (dUn gBits (dVar 0)) dNil)) (store 1) x_bits_of_1 (dVar 1) [1]))
def d_bits_of : List D → FO := denF [.ln] 2 b_bits_of
def x_changed_of_1 : DN.Env → O Bool := (dOr (dTest (dOp gNe2 (dVar 4) (dOp gShl (dC (iN 1)) (dVar 3)))) (dTest (dOp gEq2 (dOp gAnd (dOp gShr (dVar 2) (dVar 3)) (dC (iN 1))) (dC (iN 1)))))
def b_changed_of : DN.Env → O Fl := (dSeq (dAsg (storeN [1, 2]) (dVar 0))
    (dRet (dLend 1 (dLc (dEnLn 1) (storeN [3, 4]) x_changed_of_1 (dVar 3) [3, 4]))))
def d_changed_of : List D → FO := denF [.fz] 5 b_changed_of
def x_identity_1 : DN.Env → O R := (dOp gShl (dC (iN 1)) (dVar 1))
def b_identity : DN.Env → O Fl := (dRet (dTup (dCons (dLc (dRng rng1 (dCons (dVar 0) dNil)) (store 1) dYes x_identity_1 [1]) (dCons (dC (iN 0)) dNil))))
def d_identity : List D → FO := denF [.ln] 2 b_identity
def x_independent_count_1 : DN.Env → O Fl := (dAsg (store 3) (dCB gMin (dConsN (dVar 3) (dConsN (dOp gXor (dVar 3) (dVar 4)) dNil))))
def x_independent_count_2 : DN.Env → O Fl := (dSeq (dAsg (store 3) (dVar 2))
    (dSeq (dLendS 1 (dFor (dItLn 1) (store 4) x_independent_count_1))
    (dIfS (dTest (dOp gGt (dVar 3) (dC (iN 0)))) (dDrop (dBM 1 isLst gAppend (dCons (dVar 3) dNil))) dNext)))
def b_independent_count : DN.Env → O Fl := (dSeq (dAsg (store 1) (dLst dNil))
    (dSeq (dLendS 0 (dFor (dItLn 0) (store 2) x_independent_count_2))
    (dRet (dCB gLen (dConsN (dVar 1) dNil)))))
def d_independent_count : List D → FO := denF [.ln] 5 b_independent_count
def b_is_integer : DN.Env → O Fl := (dSeq (dIfS (dOr (dNot (dTru (dCB gIsi (dConsN (dVar 0) (dConsN (dC (.ty "int")) dNil))))) (dTru (dCB gIsi (dConsN (dVar 0) (dConsN (dC (.ty "bool")) dNil))))) (dRet (dC (.bl false))) dNext)
    (dRet (dAndV (dOrV (dOp gIsN (dVar 1) (dC .non)) (dOp gGe (dVar 0) (dVar 1))) (dOrV (dOp gIsN (dVar 2) (dC .non)) (dOp gLe (dVar 0) (dVar 2))))))
def d_is_integer : List D → FO := denF [.ln, .fz, .fz] 3 b_is_integer
def x_is_moving_1 : DN.Env → O R := (dOp gEq2 (dOp gAnd (dVar 1) (dOp gSub (dVar 1) (dC (iN 1)))) (dC (iN 0)))
def b_is_moving : DN.Env → O Fl := (dRet (dCB gAll (dConsN (dLc (dIt (dOp gIx (dVar 0) (dC (iN 0)))) (store 1) dYes x_is_moving_1 [1]) dNil)))
def d_is_moving : List D → FO := denF [.ln] 2 b_is_moving
def x_mask_of_1 : DN.Env → O R := (dOp gShl (dC (iN 1)) (dVar 1))
def b_mask_of : DN.Env → O Fl := (dRet (dCB gSum (dConsN (dLend 0 (dLc (dItLn 0) (store 1) dYes x_mask_of_1 [1])) dNil)))
def d_mask_of : List D → FO := denF [.ln] 2 b_mask_of
def b_need_few : DN.Env → O Fl := (dIfS (dTest (dOp gGt (dVar 0) (dVar 1))) dUS dNext)
def d_need_few : List D → FO := denF [.ln, .ln] 2 b_need_few
def b_need_like : DN.Env → O Fl := (dIfS (dTest (dOp gNe2 (dCB gLen (dConsN (dOp gIx (dVar 1) (dC (iN 0))) dNil)) (dVar 0))) (dRaise "UnlikeBits") dNext)
def d_need_like : List D → FO := denF [.ln, .ln] 2 b_need_like
def x_parity_1 : DN.Env → O Fl := (dAug 1 gXor (dOp gShr (dVar 1) (dVar 2)))
def b_parity : DN.Env → O Fl := (dSeq (dAsg (store 1) (dVar 0))
    (dSeq (dFor (dIt (dTup (dCons (dC (iN 64)) (dCons (dC (iN 32)) (dCons (dC (iN 16)) (dCons (dC (iN 8)) (dCons (dC (iN 4)) (dCons (dC (iN 2)) (dCons (dC (iN 1)) dNil))))))))) (store 2) x_parity_1)
    (dRet (dOp gAnd (dVar 1) (dC (iN 1))))))
def d_parity : List D → FO := denF [.fz] 3 b_parity
def x_put_together_1 : DN.Env → O Fl := (dAug 2 gXor (dOp gIx (dVar 0) (dVar 3)))
def b_put_together : DN.Env → O Fl := (dSeq (dAsg (store 2) (dC (iN 0)))
    (dSeq (dLendS 1 (dFor (dItLn 1) (store 3) x_put_together_1))
    (dRet (dVar 2))))
def d_put_together : List D → FO := denF [.ln, .ln] 4 b_put_together
def x_reduced_1 : DN.Env → O Fl := (dIfS (dTest (dOp gEq2 (dOp gAnd (dOp gShr (dVar 1) (dVar 3)) (dC (iN 1))) (dC (iN 1)))) (dPar [1, 2] (dCons (dOp gXor (dVar 1) (dOp gIx (dOp gIx (dVar 0) (dVar 3)) (dC (iN 0)))) (dCons (dOp gXor (dVar 2) (dOp gIx (dOp gIx (dVar 0) (dVar 3)) (dC (iN 1)))) dNil))) dNext)
def b_reduced : DN.Env → O Fl := (dSeq (dFor (dIt (dCB gSorted (dConsN (dVar 0) dNil))) (store 3) x_reduced_1)
    (dRet (dTup (dCons (dVar 1) (dCons (dVar 2) dNil)))))
def d_reduced : List D → FO := denF [.ln, .fz, .fz] 4 b_reduced
def x_rings_of_1 : DN.Env → O Bool := (dTest (dOp gEq2 (dOp gAnd (dOp gShr (dVar 3) (dVar 7)) (dC (iN 1))) (dC (iN 0))))
def x_rings_of_2 : DN.Env → O Fl := (dSeq (dAug 3 gOr (dOp gShl (dC (iN 1)) (dVar 7)))
    (dSeq (dDrop (dBM 6 isLst gAppend (dCons (dVar 7) dNil)))
    (dAsg (store 7) (dOp gSub (dUn gBits (dOp gIx (dVar 1) (dVar 7))) (dC (iN 1))))))
def x_rings_of_3 : DN.Env → O Fl := (dIfS (dAnd (dTest (dOp gNe2 (dVar 5) (dOp gShl (dC (iN 1)) (dVar 4)))) (dTest (dOp gEq2 (dOp gAnd (dOp gShr (dVar 3) (dVar 4)) (dC (iN 1))) (dC (iN 0))))) (dSeq (dPar [6, 7] (dCons (dLst dNil) (dCons (dVar 4) dNil)))
    (dSeq (dWhile x_rings_of_1 x_rings_of_2 fuel)
    (dDrop (dBM 2 isLst gAppend (dCons (dVar 6) dNil))))) dNext)
def b_rings_of : DN.Env → O Fl := (dSeq (dAsg (store 1) (dOp gIx (dVar 0) (dC (iN 0))))
    (dSeq (dPar [2, 3] (dCons (dLst dNil) (dCons (dC (iN 0)) dNil)))
    (dSeq (dLendS 1 (dFor (dEnLn 1) (storeN [4, 5]) x_rings_of_3))
    (dRet (dVar 2)))))
def d_rings_of : List D → FO := denF [.ln] 8 b_rings_of
def x_sequence_to_1 : DN.Env → O Bool := (dTest (dOp gNe2 (dVar 1) (dC (iN 0))))
def x_sequence_to_2 : DN.Env → O Fl := (dSeq (dAsg (store 3) (dOp gIx (dVar 0) (dVar 1)))
    (dSeq (dDrop (dBM 2 isLst gAppend (dCons (dOp gSub (dUn gBits (dOp gXor (dVar 1) (dVar 3))) (dC (iN 1))) dNil)))
    (dAsg (store 1) (dVar 3))))
def b_sequence_to : DN.Env → O Fl := (dSeq (dAsg (store 2) (dLst dNil))
    (dSeq (dWhile x_sequence_to_1 x_sequence_to_2 fuel)
    (dRet (dUn gRev (dVar 2)))))
def d_sequence_to : List D → FO := denF [.ln, .ln] 4 b_sequence_to
def x__law_made_1 : DN.Env → O R := (dOp gShl (dC (iN 1)) (dVar 8))
def x__law_made_2 : DN.Env → O Fl := (dIfS (dTest (dOp gEq2 (dOp gAnd (dOp gShr (dVar 5) (dVar 8)) (dC (iN 1))) (dC (iN 1)))) (dAsg (store 7) (dOp gXor (dVar 7) (dOp gIx (dVar 2) (dVar 8)))) dNext)
def x__law_made_3 : DN.Env → O Fl := (dSeq (dAsg (store 7) (dOp gIx (dVar 2) (dVar 4)))
    (dSeq (dFor (dRng rng1 (dCons (dVar 0) dNil)) (store 8) x__law_made_2)
    (dSeq (dSetI 2 gPut (dVar 4) (dVar 7))
    (dAsg (store 3) (dOp gXor (dVar 3) (dOp gShl (dOp gXor (dCall [.ln] d__law_odd [] (dCons (dOp gAnd (dVar 5) (dVar 3)) dNil)) (dVar 6)) (dVar 4)))))))
def b__law_made : DN.Env → O Fl := (dSeq (dPar [2, 3] (dCons (dLc (dRng rng1 (dCons (dVar 0) dNil)) (store 8) dYes x__law_made_1 [8]) (dCons (dC (iN 0)) dNil)))
    (dSeq (dLendS 1 (dFor (dItLn 1) (storeN [4, 5, 6]) x__law_made_3))
    (dRet (dTup (dCons (dVar 2) (dCons (dVar 3) dNil))))))
def d__law_made : List D → FO := denF [.ln, .ln] 9 b__law_made
def x__law_mixed_1 : DN.Env → O Bool := (dTest (dOp gNe2 (dVar 2) (dLst dNil)))
def x__law_mixed_2 : DN.Env → O Fl := (dDrop (dBM 3 isLst gAppend (dCons (dBM 2 isLst gPop1 (dCons (dCall [.io, .ln] d__law_draw [] (dCons (dVar 0) (dCons (dCB gLen (dConsN (dVar 2) dNil)) dNil))) dNil)) dNil)))
def b__law_mixed : DN.Env → O Fl := (dSeq (dPar [2, 3] (dCons (dCB gList (dConsN (dVar 1) dNil)) (dCons (dLst dNil) dNil)))
    (dSeq (dWhile x__law_mixed_1 x__law_mixed_2 fuel)
    (dRet (dVar 3))))
def d__law_mixed : List D → FO := denF [.io, .ln] 4 b__law_mixed
def b__law_some_stage : DN.Env → O Fl := (dSeq (dPar [2, 3] (dCons (dCall [.io, .ln] d__law_draw [] (dCons (dVar 0) (dCons (dVar 1) dNil))) (dCons (dCall [.io, .ln] d__law_draw [] (dCons (dVar 0) (dCons (dC (iN 6)) dNil))) dNil)))
    (dSeq (dIfS (dTest (dOp gEq2 (dVar 3) (dC (iN 0)))) (dRet (dTup (dCons (dVar 2) (dCons (dC (iN 0)) (dCons (dCall [.io, .ln] d__law_draw [] (dCons (dVar 0) (dCons (dC (iN 2)) dNil))) dNil))))) dNext)
    (dSeq (dAsg (store 4) (dCall [.io, .ln] d__law_draw [] (dCons (dVar 0) (dCons (dOp gShl (dC (iN 1)) (dVar 1)) dNil))))
    (dSeq (dIfS (dTest (dOp gLt (dVar 3) (dC (iN 4)))) (dAsg (store 4) (dOp gOr (dOp gShl (dC (iN 1)) (dCall [.io, .ln] d__law_draw [] (dCons (dVar 0) (dCons (dVar 1) dNil)))) (dOp gShl (dC (iN 1)) (dCall [.io, .ln] d__law_draw [] (dCons (dVar 0) (dCons (dVar 1) dNil)))))) dNext)
    (dRet (dTup (dCons (dVar 2) (dCons (dOp gAnd (dVar 4) (dUn gInv (dOp gShl (dC (iN 1)) (dVar 2)))) (dCons (dCB gInt (dConsN (dOp gEq2 (dCall [.io, .ln] d__law_draw [] (dCons (dVar 0) (dCons (dC (iN 3)) dNil))) (dC (iN 0))) dNil)) dNil)))))))))
def d__law_some_stage : List D → FO := denF [.io, .ln] 5 b__law_some_stage
def x_are_bits_1 : DN.Env → O Fl := (dSeq (dIfS (dOr (dNot (dTru (dCall [.ln, .fz, .fz] d_is_integer [] (dCons (dVar 3) (dCons (dC (iN 0)) (dCons (dOp gSub (dVar 0) (dC (iN 1))) dNil)))))) (dTest (dOp gIn (dVar 3) (dVar 2)))) (dRet (dC (.bl false))) dNext)
    (dSetI 2 gPut (dVar 3) (dC (.bl true))))
def b_are_bits : DN.Env → O Fl := (dSeq (dIfS (dOr (dNot (dTru (dCB gIsi (dConsN (dVar 1) (dConsN (dC (.ty "list")) dNil))))) (dTest (dOp gGt (dCB gLen (dConsN (dVar 1) dNil)) (dVar 0)))) (dRet (dC (.bl false))) dNext)
    (dSeq (dAsg (store 2) dDnew)
    (dSeq (dLendS 1 (dFor (dItLn 1) (store 3) x_are_bits_1))
    (dRet (dC (.bl true))))))
def d_are_bits : List D → FO := denF [.ln, .ln] 4 b_are_bits
def x_best_of_move_1 : DN.Env → O Bool := (dTest (dOp gEq2 (dOp gAnd (dOp gShr (dVar 2) (dVar 5)) (dC (iN 1))) (dC (iN 0))))
def x_best_of_move_2 : DN.Env → O Fl := (dDrop (dBM 3 isLst gExtend (dCons (dPk (dVar 4) dNoPart (dPart (dC (iN 0))) (dPart (dUn gNeg (dC (iN 1))))) dNil)))
def x_best_of_move_3 : DN.Env → O R := (dOp gIx (dVar 4) (dC (iN 0)))
def b_best_of_move : DN.Env → O Fl := (dSeq (dAsg (store 1) (dCall [.ln] d_rings_of [] (dCons (dVar 0) dNil)))
    (dSeq (dAsg (store 2) (dCall [.ln] d_mask_of [] (dCons (dFlat (dIt (dVar 1)) 4 5) dNil)))
    (dSeq (dAsg (store 3) (dLc (dIt (dCall [.fz] d_changed_of [] (dCons (dVar 0) dNil))) (store 5) x_best_of_move_1 (dVar 5) [5]))
    (dSeq (dLendS 1 (dFor (dItLn 1) (store 4) x_best_of_move_2))
    (dRet (dTup (dCons (dCall [.ln] d_mask_of [] (dCons (dLend 1 (dLc (dItLn 1) (store 4) dYes x_best_of_move_3 [4])) dNil)) (dCons (dVar 3) dNil))))))))
def d_best_of_move : List D → FO := denF [.fz] 6 b_best_of_move
def x_eliminated_1 : DN.Env → O Fl := (dSeq (dAsg (storeN [5, 6]) (dCall [.ln, .fz, .fz] d_reduced [] (dCons (dVar 1) (dCons (dVar 4) (dCons (dOp gShl (dC (iN 1)) (dVar 3)) dNil)))))
    (dIfS (dTest (dOp gEq2 (dVar 5) (dC (iN 0)))) (dDrop (dBM 2 isLst gAppend (dCons (dVar 6) dNil))) (dSetI 1 gPut (dOp gSub (dUn gBits (dOp gAnd (dVar 5) (dUn gNeg (dVar 5)))) (dC (iN 1))) (dTup (dCons (dVar 5) (dCons (dVar 6) dNil))))))
def b_eliminated : DN.Env → O Fl := (dSeq (dPar [1, 2] (dCons dDnew (dCons (dLst dNil) dNil)))
    (dSeq (dLendS 0 (dFor (dEnLn 0) (storeN [3, 4]) x_eliminated_1))
    (dRet (dTup (dCons (dVar 1) (dCons (dVar 2) dNil))))))
def d_eliminated : List D → FO := denF [.ln] 7 b_eliminated
def x_is_independent_1 : DN.Env → O R := (dOp gAnd (dOp gIx (dOp gIx (dVar 0) (dC (iN 0))) (dVar 4)) (dOp gOr (dVar 1) (dVar 2)))
def b_is_independent : DN.Env → O Fl := (dSeq (dAsg (store 3) (dLc (dIt (dCall [.ln] d_bits_of [] (dCons (dVar 1) dNil))) (store 4) dYes x_is_independent_1 [4]))
    (dRet (dOp gEq2 (dCall [.ln] d_independent_count [] (dCons (dVar 3) dNil)) (dCB gLen (dConsN (dVar 3) dNil)))))
def d_is_independent : List D → FO := denF [.ln, .ln, .ln] 5 b_is_independent
def b_is_place : DN.Env → O Fl := (dRet (dCall [.ln, .fz, .fz] d_is_integer [] (dCons (dVar 1) (dCons (dC (iN 0)) (dCons (dOp gSub (dOp gShl (dC (iN 1)) (dVar 0)) (dC (iN 1))) dNil)))))
def d_is_place : List D → FO := denF [.ln, .ln] 2 b_is_place
def x_made_by_1 : DN.Env → O Fl := (dSeq (dAugI 2 goIx gXor gPut (dVar 4) (dCall [.ln, .ln] d_put_together [] (dCons (dVar 2) (dCons (dCall [.ln] d_bits_of [] (dCons (dVar 5) dNil)) dNil))))
    (dAug 3 gXor (dOp gShl (dOp gXor (dCall [.fz] d_parity [] (dCons (dOp gAnd (dVar 5) (dVar 3)) dNil)) (dVar 6)) (dVar 4))))
def b_made_by : DN.Env → O Fl := (dSeq (dAsg (storeN [2, 3]) (dCall [.ln] d_identity [] (dCons (dVar 0) dNil)))
    (dSeq (dLendS 1 (dFor (dItLn 1) (storeN [4, 5, 6]) x_made_by_1))
    (dRet (dTup (dCons (dVar 2) (dCons (dVar 3) dNil))))))
def d_made_by : List D → FO := denF [.ln, .ln] 7 b_made_by
def x_moved_1 : DN.Env → O R := (dOp gShl (dCall [.fz] d_parity [] (dCons (dOp gAnd (dVar 5) (dVar 1)) dNil)) (dVar 4))
def b_moved : DN.Env → O Fl := (dSeq (dAsg (storeN [2, 3]) (dVar 0))
    (dRet (dOp gXor (dVar 3) (dCB gSum (dConsN (dLend 2 (dLc (dEnLn 2) (storeN [4, 5]) dYes x_moved_1 [4, 5])) dNil)))))
def d_moved : List D → FO := denF [.fz, .ln] 6 b_moved
def b_need_bits : DN.Env → O Fl := (dIfS (dNot (dTru (dCall [.ln, .fz, .fz] d_is_integer [] (dCons (dVar 0) (dCons (dC (iN 1)) (dCons (dC (iN 60)) dNil)))))) (dRaise "InvalidBits") dNext)
def d_need_bits : List D → FO := denF [.ln] 1 b_need_bits
def b_once_of : DN.Env → O Fl := (dRet (dOp gAnd (dCall [.ln] d_mask_of [] (dCons (dCall [.fz] d_changed_of [] (dCons (dVar 0) dNil)) dNil)) (dUn gInv (dVar 1))))
def d_once_of : List D → FO := denF [.fz, .ln] 2 b_once_of
def x_System___init___1 : DN.Env → O Bool := (dTest (dOp gEq2 (dVar 6) (dC (iN 1))))
def x_System___init___2 : DN.Env → O Bool := (dTest (dOp gEq2 (dCall [.fz] d_parity [] (dCons (dOp gAnd (dVar 7) (dUn (gFld ["System"] "ones") (dVar 0))) dNil)) (dC (iN 1))))
def x_System___init___3 : DN.Env → O Bool := (dTest (dOp gNotIn (dVar 8) (dUn (gFld ["System"] "leads") (dVar 0))))
def b_System___init__ : DN.Env → O Fl := (dSeq (dAsg (storeF 0 ["System"] "bits_kept") (dVar 1))
    (dSeq (dAsg (storeF 0 ["System"] "ones") (dCall [.ln] d_mask_of [] (dCons (dLend 3 (dLc (dEnLn 3) (storeN [5, 6]) x_System___init___1 (dVar 5) [5, 6])) dNil)))
    (dSeq (dAsg (storeT [.fld 0 ["System"] "leads", .nm 4]) (dCall [.ln] d_eliminated [] (dCons (dVar 2) dNil)))
    (dSeq (dAsg (storeF 0 ["System"] "wrong") (dLend 4 (dLc (dItLn 4) (store 7) x_System___init___2 (dVar 7) [7])))
    (dAsg (storeF 0 ["System"] "free") (dLc (dRng rng1 (dCons (dVar 1) dNil)) (store 8) x_System___init___3 (dVar 8) [8]))))))
def d_System___init__ : List D → FO := denF [.io, .fz, .ln, .ln] 9 b_System___init__
def x__law_path_1 : DN.Env → O R := (dCall [.io, .ln] d__law_some_stage [] (dCons (dVar 0) (dCons (dVar 1) dNil)))
def b__law_path : DN.Env → O Fl := (dRet (dLc (dRng rng1 (dCons (dVar 2) dNil)) (store 3) dYes x__law_path_1 [3]))
def d__law_path : List D → FO := denF [.io, .ln, .ln] 4 b__law_path
def b__law_sequence : DN.Env → O Fl := (dSeq (dAsg (store 2) (dLstRg (dRg1 (dVar 1))))
    (dSeq (dAsg (store 3) (dCall [.io, .ln] d__law_draw [] (dCons (dVar 0) (dCons (dC (iN 4)) dNil))))
    (dSeq (dIfS (dTest (dOp gEq2 (dVar 3) (dC (iN 0)))) (dRet (dVar 2)) dNext)
    (dRet (dIf (dTest (dOp gEq2 (dVar 3) (dC (iN 1)))) (dUn gRev (dVar 2)) (dCall [.io, .ln] d__law_mixed [] (dCons (dVar 0) (dCons (dVar 2) dNil))))))))
def d__law_sequence : List D → FO := denF [.io, .ln] 4 b__law_sequence
def x_behind_1 : DN.Env → O R := (dCall [.ln, .ln] d_put_together [] (dCons (dVar 2) (dCons (dCall [.ln] d_bits_of [] (dCons (dVar 4) dNil)) dNil)))
def b_behind : DN.Env → O Fl := (dSeq (dAsg (storeN [2, 3]) (dVar 0))
    (dRet (dTup (dCons (dLc (dIt (dOp gIx (dVar 1) (dC (iN 0)))) (store 4) dYes x_behind_1 [4]) (dCons (dCall [.fz, .ln] d_moved [] (dCons (dVar 1) (dCons (dVar 3) dNil))) dNil)))))
def d_behind : List D → FO := denF [.fz, .fz] 5 b_behind
def b_cost_of : DN.Env → O Fl := (dRet (dOp gAdd (dCB gLen (dConsN (dCall [.ln] d_bits_of [] (dCons (dCall [.fz, .ln] d_once_of [] (dCons (dVar 0) (dCons (dVar 1) dNil))) dNil)) dNil)) (dOp gMul (dC (iN 2)) (dCB gLen (dConsN (dCall [.ln] d_bits_of [] (dCons (dVar 1) dNil)) dNil)))))
def d_cost_of : List D → FO := denF [.fz, .ln] 2 b_cost_of
def b_fits : DN.Env → O Fl := (dSeq (dIfS (dOr (dNot (dTru (dCB gIsi (dConsN (dVar 1) (dConsN (dC (.ty "tuple")) dNil))))) (dTest (dOp gNe2 (dCB gLen (dConsN (dVar 1) dNil)) (dC (iN 3))))) (dRet (dC (.bl false))) dNext)
    (dSeq (dAsg (storeN [2, 3, 4]) (dVar 1))
    (dSeq (dIfS (dOr (dNot (dTru (dCall [.ln, .fz, .fz] d_is_integer [] (dCons (dVar 2) (dCons (dC (iN 0)) (dCons (dOp gSub (dVar 0) (dC (iN 1))) dNil)))))) (dOr (dNot (dTru (dCall [.ln, .ln] d_is_place [] (dCons (dVar 0) (dCons (dVar 3) dNil))))) (dNot (dTru (dCall [.ln, .fz, .fz] d_is_integer [] (dCons (dVar 4) (dCons (dC (iN 0)) (dCons (dC (iN 1)) dNil)))))))) (dRet (dC (.bl false))) dNext)
    (dRet (dOp gEq2 (dOp gAnd (dOp gShr (dVar 3) (dVar 2)) (dC (iN 1))) (dC (iN 0)))))))
def d_fits : List D → FO := denF [.ln, .fz] 5 b_fits
def x_mapping_fault_1 : DN.Env → O Fl := (dSeq (dIfS (dNot (dTru (dCall [.ln, .ln] d_is_place [] (dCons (dCB gLen (dConsN (dVar 1) dNil)) (dCons (dVar 5) dNil))))) (dRet (dTup (dCons (dVar 4) dNil))) dNext)
    (dSeq (dAsg (store 6) (dOp gIx (dCall [.ln, .fz, .fz] d_reduced [] (dCons (dVar 3) (dCons (dVar 5) (dCons (dC (iN 0)) dNil)))) (dC (iN 0))))
    (dSeq (dIfS (dTest (dOp gEq2 (dVar 6) (dC (iN 0)))) (dRet (dTup (dCons (dVar 4) dNil))) dNext)
    (dSetI 3 gPut (dOp gSub (dUn gBits (dOp gAnd (dVar 6) (dUn gNeg (dVar 6)))) (dC (iN 1))) (dTup (dCons (dVar 6) (dCons (dC (iN 0)) dNil)))))))
def b_mapping_fault : DN.Env → O Fl := (dSeq (dIfS (dOr (dNot (dTru (dCB gIsi (dConsN (dVar 0) (dConsN (dC (.ty "tuple")) dNil))))) (dTest (dOp gNe2 (dCB gLen (dConsN (dVar 0) dNil)) (dC (iN 2))))) (dRet (dTup (dCons (dC .non) dNil))) dNext)
    (dSeq (dAsg (storeN [1, 2]) (dVar 0))
    (dSeq (dIfS (dOr (dNot (dTru (dCB gIsi (dConsN (dVar 1) (dConsN (dC (.ty "list")) dNil))))) (dNot (dTest (dChain gLe gLe (dC (iN 1)) (dCB gLen (dConsN (dVar 1) dNil)) (dC (iN 60)))))) (dRet (dTup (dCons (dC .non) dNil))) dNext)
    (dSeq (dAsg (store 3) dDnew)
    (dSeq (dLendS 1 (dFor (dEnLn 1) (storeN [4, 5]) x_mapping_fault_1))
    (dRet (dIf (dTru (dCall [.ln, .ln] d_is_place [] (dCons (dCB gLen (dConsN (dVar 1) dNil)) (dCons (dVar 2) dNil)))) (dTup dNil) (dTup (dCons (dCB gLen (dConsN (dVar 1) dNil)) dNil)))))))))
def d_mapping_fault : List D → FO := denF [.fz] 7 b_mapping_fault
def b_need_place : DN.Env → O Fl := (dIfS (dNot (dTru (dCall [.ln, .ln] d_is_place [] (dCons (dVar 0) (dCons (dVar 1) dNil))))) (dRaise "InvalidPlace") dNext)
def d_need_place : List D → FO := denF [.ln, .ln] 2 b_need_place
def x_sets_before_1 : DN.Env → O Fl := (dSeq (dAsg (store 7) (dOp gOr (dVar 5) (dOp gShl (dC (iN 1)) (dVar 6))))
    (dIfS (dAnd (dTest (dOp gNotIn (dVar 7) (dVar 3))) (dTru (dCall [.ln, .ln, .ln] d_is_independent [] (dCons (dVar 0) (dCons (dVar 7) (dCons (dVar 1) dNil)))))) (dSeq (dSetI 3 gPut (dVar 7) (dVar 5))
    (dDrop (dBM 4 isLst gAppend (dCons (dVar 7) dNil)))) dNext))
def x_sets_before_2 : DN.Env → O Bool := (dTest (dOp gNe2 (dVar 4) (dLst dNil)))
def x_sets_before_3 : DN.Env → O Fl := (dSeq (dAsg (store 5) (dBM 4 isLst gPop0 dNil))
    (dLendS 2 (dFor (dItLn 2) (store 6) x_sets_before_1)))
def b_sets_before : DN.Env → O Fl := (dSeq (dAsg (store 2) (dCall [.ln] d_bits_of [] (dCons (dCall [.fz, .ln] d_once_of [] (dCons (dVar 0) (dCons (dVar 1) dNil))) dNil)))
    (dSeq (dPar [3, 4] (dCons (dDisp [((dC (iN 0)), (dC .non))]) (dCons (dLst (dCons (dC (iN 0)) dNil)) dNil)))
    (dSeq (dWhile x_sets_before_2 x_sets_before_3 fuel)
    (dRet (dVar 3)))))
def d_sets_before : List D → FO := denF [.fz, .ln] 8 b_sets_before
def x__law_plan_1 : DN.Env → O R := (dOp gShl (dC (iN 1)) (dVar 7))
def x__law_plan_2 : DN.Env → O R := (dOp gShl (dC (iN 1)) (dVar 7))
def x__law_plan_3 : DN.Env → O Fl := (dSeq (dSetI 4 gPut (dVar 7) (dOp gOr (dOp gShl (dC (iN 1)) (dVar 7)) (dOp gAnd (dVar 6) (dCall [.io, .ln] d__law_draw [] (dCons (dVar 0) (dCons (dOp gShl (dC (iN 1)) (dVar 1)) dNil))))))
    (dAsg (store 6) (dOp gOr (dVar 6) (dOp gShl (dC (iN 1)) (dVar 7)))))
def x__law_plan_4 : DN.Env → O R := (dOp gShl (dC (iN 1)) (dVar 7))
def x__law_plan_5 : DN.Env → O R := (dTup (dCons (dVar 7) (dCons (dOp gAnd (dCall [.io, .ln] d__law_draw [] (dCons (dVar 0) (dCons (dOp gShl (dC (iN 1)) (dVar 1)) dNil))) (dUn gInv (dOp gShl (dC (iN 1)) (dVar 7)))) (dCons (dC (iN 0)) dNil))))
def b__law_plan : DN.Env → O Fl := (dSeq (dAsg (store 2) (dCall [.io, .ln] d__law_draw [] (dCons (dVar 0) (dCons (dC (iN 7)) dNil))))
    (dSeq (dIfS (dTest (dOp gEq2 (dVar 2) (dC (iN 0)))) (dRet (dCall [.ln, .ln] d__law_made [] (dCons (dVar 1) (dCons (dCall [.io, .ln, .ln] d__law_path [] (dCons (dVar 0) (dCons (dVar 1) (dCons (dOp gMul (dC (iN 3)) (dVar 1)) dNil)))) dNil)))) dNext)
    (dSeq (dIfS (dTest (dOp gEq2 (dVar 2) (dC (iN 1)))) (dRet (dCall [.ln, .ln] d__law_made [] (dCons (dVar 1) (dCons (dCall [.io, .ln, .ln] d__law_path [] (dCons (dVar 0) (dCons (dVar 1) (dCons (dOp gAdd (dC (iN 1)) (dCall [.io, .ln] d__law_draw [] (dCons (dVar 0) (dCons (dVar 1) dNil)))) dNil)))) dNil)))) dNext)
    (dSeq (dIfS (dTest (dOp gEq2 (dVar 2) (dC (iN 2)))) (dSeq (dAsg (store 3) (dOp gAdd (dC (iN 1)) (dCall [.io, .ln] d__law_draw [] (dCons (dVar 0) (dCons (dVar 1) dNil)))))
    (dSeq (dAsg (storeN [4, 5]) (dCall [.ln, .ln] d__law_made [] (dCons (dVar 3) (dCons (dCall [.io, .ln, .ln] d__law_path [] (dCons (dVar 0) (dCons (dVar 3) (dCons (dOp gMul (dC (iN 2)) (dVar 3)) dNil)))) dNil))))
    (dRet (dTup (dCons (dOp gAdd (dVar 4) (dLc (dRng rng2 (dCons (dVar 3) (dCons (dVar 1) dNil))) (store 7) dYes x__law_plan_1 [7])) (dCons (dVar 5) dNil)))))) dNext)
    (dSeq (dIfS (dTest (dOp gEq2 (dVar 2) (dC (iN 3)))) (dSeq (dAsg (store 3) (dCall [.io, .ln] d__law_mixed [] (dCons (dVar 0) (dCons (dLstRg (dRg1 (dOp gAdd (dC (iN 1)) (dCall [.io, .ln] d__law_draw [] (dCons (dVar 0) (dCons (dVar 1) dNil)))))) dNil))))
    (dRet (dTup (dCons (dLc (dIt (dOp gAdd (dVar 3) (dLstRg (dRg2 (dCB gLen (dConsN (dVar 3) dNil)) (dVar 1))))) (store 7) dYes x__law_plan_2 [7]) (dCons (dCall [.io, .ln] d__law_draw [] (dCons (dVar 0) (dCons (dOp gShl (dC (iN 1)) (dVar 1)) dNil))) dNil))))) dNext)
    (dSeq (dIfS (dTest (dOp gEq2 (dVar 2) (dC (iN 4)))) (dSeq (dPar [4, 6] (dCons (dOp gMul (dLst (dCons (dC (iN 0)) dNil)) (dVar 1)) (dCons (dC (iN 0)) dNil)))
    (dSeq (dFor (dIt (dCall [.io, .ln] d__law_sequence [] (dCons (dVar 0) (dCons (dVar 1) dNil)))) (store 7) x__law_plan_3)
    (dRet (dTup (dCons (dVar 4) (dCons (dCall [.io, .ln] d__law_draw [] (dCons (dVar 0) (dCons (dOp gShl (dC (iN 1)) (dVar 1)) dNil))) dNil)))))) dNext)
    (dSeq (dIfS (dTest (dOp gEq2 (dVar 2) (dC (iN 5)))) (dRet (dTup (dCons (dLc (dRng rng1 (dCons (dVar 1) dNil)) (store 7) dYes x__law_plan_4 [7]) (dCons (dOp gMul (dCall [.io, .ln] d__law_draw [] (dCons (dVar 0) (dCons (dOp gShl (dC (iN 1)) (dVar 1)) dNil))) (dCall [.io, .ln] d__law_draw [] (dCons (dVar 0) (dCons (dC (iN 2)) dNil)))) dNil)))) dNext)
    (dRet (dCall [.ln, .ln] d__law_made [] (dCons (dVar 1) (dCons (dLc (dIt (dCall [.io, .ln] d__law_sequence [] (dCons (dVar 0) (dCons (dVar 1) dNil)))) (store 7) dYes x__law_plan_5 [7]) dNil)))))))))))
def d__law_plan : List D → FO := denF [.io, .ln] 8 b__law_plan
def x_best_with_sequence_1 : DN.Env → O R := (dTup (dCons (dCall [.fz, .ln] d_cost_of [] (dCons (dVar 0) (dCons (dVar 3) dNil))) (dCons (dVar 3) dNil)))
def x_best_with_sequence_2 : DN.Env → O Fl := (dSeq (dAsg (store 4) (dCall [.fz, .ln] d_sets_before [] (dCons (dVar 0) (dCons (dVar 3) dNil))))
    (dSeq (dAsg (store 5) (dCall [.fz, .ln] d_once_of [] (dCons (dVar 0) (dCons (dVar 3) dNil))))
    (dIfS (dTest (dOp gIn (dVar 5) (dVar 4))) (dRet (dTup (dCons (dVar 3) (dCons (dCall [.ln, .ln] d_sequence_to [] (dCons (dVar 4) (dCons (dVar 5) dNil))) dNil)))) dNext)))
def b_best_with_sequence : DN.Env → O Fl := (dSeq (dAsg (store 1) (dCB gSortD (dConsN (dLc (dRng rng1 (dCons (dOp gShl (dC (iN 1)) (dCB gLen (dConsN (dOp gIx (dVar 0) (dC (iN 0))) dNil))) dNil)) (store 3) dYes x_best_with_sequence_1 [3]) dNil)))
    (dSeq (dLendS 1 (dFor (dItLn 1) (storeN [2, 3]) x_best_with_sequence_2))
    (dRet (dTup (dCons (dC (iN 0)) (dCons (dLst dNil) dNil))))))
def d_best_with_sequence : List D → FO := denF [.fz] 6 b_best_with_sequence
def b_need_mapping : DN.Env → O Fl := (dSeq (dAsg (store 1) (dCall [.fz] d_mapping_fault [] (dCons (dVar 0) dNil)))
    (dIfS (dTest (dOp gNe2 (dVar 1) (dTup dNil))) dUS dNext))
def d_need_mapping : List D → FO := denF [.fz] 2 b_need_mapping
def x_run_fault_1 : DN.Env → O Fl := (dIfS (dNot (dTru (dCall [.ln, .fz] d_fits [] (dCons (dVar 0) (dCons (dVar 3) dNil))))) (dRet (dTup (dCons (dVar 2) dNil))) dNext)
def b_run_fault : DN.Env → O Fl := (dSeq (dIfS (dOr (dNot (dTru (dCB gIsi (dConsN (dVar 1) (dConsN (dC (.ty "list")) dNil))))) (dTest (dOp gGt (dCB gLen (dConsN (dVar 1) dNil)) (dC (iN 400))))) (dRet (dTup (dCons (dC .non) dNil))) dNext)
    (dSeq (dLendS 1 (dFor (dEnLn 1) (storeN [2, 3]) x_run_fault_1))
    (dRet (dTup dNil))))
def d_run_fault : List D → FO := denF [.ln, .ln] 4 b_run_fault
def b_best_of : DN.Env → O Fl := (dRet (dIf (dTru (dCall [.ln] d_is_moving [] (dCons (dVar 0) dNil))) (dCall [.fz] d_best_of_move [] (dCons (dVar 0) dNil)) (dCall [.fz] d_best_with_sequence [] (dCons (dVar 0) dNil))))
def d_best_of : List D → FO := denF [.fz] 1 b_best_of
def b_need_run : DN.Env → O Fl := (dSeq (dAsg (store 2) (dCall [.ln, .ln] d_run_fault [] (dCons (dVar 0) (dCons (dVar 1) dNil))))
    (dIfS (dTest (dOp gNe2 (dVar 2) (dTup dNil))) dUS dNext))
def d_need_run : List D → FO := denF [.ln, .ln] 3 b_need_run
def b_need_searched : DN.Env → O Fl := (dSeq (dDrop (dCall [.fz] d_need_mapping [] (dCons (dVar 0) dNil)))
    (dIfS (dNot (dTru (dCall [.ln] d_is_moving [] (dCons (dVar 0) dNil)))) (dDrop (dCall [.ln, .ln] d_need_few [] (dCons (dCB gLen (dConsN (dOp gIx (dVar 0) (dC (iN 0))) dNil)) (dCons (dC (iN 7)) dNil)))) dNext))
def d_need_searched : List D → FO := denF [.fz] 1 b_need_searched
def b_need_twice : DN.Env → O Fl := (dSeq (dDrop (dCall [.fz] d_need_mapping [] (dCons (dVar 0) dNil)))
    (dSeq (dDrop (dCall [.ln, .ln] d_need_place [] (dCons (dCB gLen (dConsN (dOp gIx (dVar 0) (dC (iN 0))) dNil)) (dCons (dVar 1) dNil))))
    (dDrop (dCall [.ln, .ln] d_need_few [] (dCons (dCB gLen (dConsN (dOp gIx (dVar 0) (dC (iN 0))) dNil)) (dCons (dC (iN 7)) dNil))))))
def d_need_twice : List D → FO := denF [.fz, .ln] 2 b_need_twice
def b_then : DN.Env → O Fl := (dSeq (dDrop (dCall [.fz] d_need_mapping [] (dCons (dVar 0) dNil)))
    (dSeq (dDrop (dCall [.fz] d_need_mapping [] (dCons (dVar 1) dNil)))
    (dSeq (dDrop (dCall [.ln, .ln] d_need_like [] (dCons (dCB gLen (dConsN (dOp gIx (dVar 0) (dC (iN 0))) dNil)) (dCons (dVar 1) dNil))))
    (dRet (dCall [.fz, .fz] d_behind [] (dCons (dVar 0) (dCons (dVar 1) dNil)))))))
def d_then : List D → FO := denF [.fz, .fz] 2 b_then
def b_barring_sets : DN.Env → O Fl := (dSeq (dDrop (dCall [.fz, .ln] d_need_twice [] (dCons (dVar 0) (dCons (dVar 1) dNil))))
    (dSeq (dAsg (store 2) (dCall [.fz, .ln] d_sets_before [] (dCons (dVar 0) (dCons (dVar 1) dNil))))
    (dRet (dIf (dTest (dOp gNotIn (dCall [.fz, .ln] d_once_of [] (dCons (dVar 0) (dCons (dVar 1) dNil))) (dVar 2))) (dCB gSorted (dConsN (dVar 2) dNil)) (dC .non)))))
def d_barring_sets : List D → FO := denF [.fz, .ln] 3 b_barring_sets
def b_best_twice : DN.Env → O Fl := (dSeq (dDrop (dCall [.fz] d_need_mapping [] (dCons (dVar 0) dNil)))
    (dSeq (dDrop (dCall [.ln, .ln] d_need_few [] (dCons (dCB gLen (dConsN (dOp gIx (dVar 0) (dC (iN 0))) dNil)) (dCons (dC (iN 7)) dNil))))
    (dRet (dOp gIx (dCall [.fz] d_best_of [] (dCons (dVar 0) dNil)) (dC (iN 0))))))
def d_best_twice : List D → FO := denF [.fz] 1 b_best_twice
def b_fewest_of : DN.Env → O Fl := (dRet (dCall [.fz, .ln] d_cost_of [] (dCons (dVar 0) (dCons (dOp gIx (dCall [.fz] d_best_of [] (dCons (dVar 0) dNil)) (dC (iN 0))) dNil))))
def d_fewest_of : List D → FO := denF [.fz] 1 b_fewest_of
def b_need_both_k17 : DN.Env → O Fl := (dSeq (dDrop (dCall [.ln] d_need_bits [] (dCons (dVar 0) dNil)))
    (dDrop (dCall [.ln, .ln] d_need_run [] (dCons (dVar 0) (dCons (dVar 1) dNil)))))
def d_need_both_k17 : List D → FO := denF [.ln, .ln] 2 b_need_both_k17
def b_serves : DN.Env → O Fl := (dSeq (dDrop (dCall [.fz, .ln] d_need_twice [] (dCons (dVar 0) (dCons (dVar 1) dNil))))
    (dRet (dOp gIn (dCall [.fz, .ln] d_once_of [] (dCons (dVar 0) (dCons (dVar 1) dNil))) (dCall [.fz, .ln] d_sets_before [] (dCons (dVar 0) (dCons (dVar 1) dNil))))))
def d_serves : List D → FO := denF [.fz, .ln] 2 b_serves
def b_serving_sequence : DN.Env → O Fl := (dSeq (dDrop (dCall [.fz, .ln] d_need_twice [] (dCons (dVar 0) (dCons (dVar 1) dNil))))
    (dSeq (dPar [2, 3] (dCons (dCall [.fz, .ln] d_sets_before [] (dCons (dVar 0) (dCons (dVar 1) dNil))) (dCons (dCall [.fz, .ln] d_once_of [] (dCons (dVar 0) (dCons (dVar 1) dNil))) dNil)))
    (dRet (dIf (dTest (dOp gIn (dVar 3) (dVar 2))) (dCall [.ln, .ln] d_sequence_to [] (dCons (dVar 2) (dCons (dVar 3) dNil))) (dC .non)))))
def d_serving_sequence : List D → FO := denF [.fz, .ln] 4 b_serving_sequence
def x_shows_barring_1 : DN.Env → O R := (dAndV (dCall [.ln, .fz, .fz] d_is_integer [] (dCons (dVar 4) (dCons (dC (iN 0)) (dCons (dVar 3) dNil)))) (dOp gEq2 (dOp gAnd (dVar 4) (dUn gInv (dVar 3))) (dC (iN 0))))
def x_shows_barring_2 : DN.Env → O Fl := (dIfS (dAnd (dTest (dOp gNotIn (dOp gOr (dVar 4) (dOp gShl (dC (iN 1)) (dVar 5))) (dVar 2))) (dTru (dCall [.ln, .ln, .ln] d_is_independent [] (dCons (dVar 0) (dCons (dOp gOr (dVar 4) (dOp gShl (dC (iN 1)) (dVar 5))) (dCons (dVar 1) dNil)))))) (dRet (dC (.bl false))) dNext)
def x_shows_barring_3 : DN.Env → O Fl := (dFor (dIt (dCall [.ln] d_bits_of [] (dCons (dOp gAnd (dVar 3) (dUn gInv (dVar 4))) dNil))) (store 5) x_shows_barring_2)
def b_shows_barring : DN.Env → O Fl := (dSeq (dDrop (dCall [.fz, .ln] d_need_twice [] (dCons (dVar 0) (dCons (dVar 1) dNil))))
    (dSeq (dAsg (store 3) (dCall [.fz, .ln] d_once_of [] (dCons (dVar 0) (dCons (dVar 1) dNil))))
    (dSeq (dIfS (dOr (dNot (dTru (dCB gIsi (dConsN (dVar 2) (dConsN (dC (.ty "list")) dNil))))) (dTest (dOp gGt (dCB gLen (dConsN (dVar 2) dNil)) (dC (iN 128))))) (dRet (dC (.bl false))) dNext)
    (dSeq (dIfS (dNot (dTru (dCB gAll (dConsN (dLend 2 (dLc (dItLn 2) (store 4) dYes x_shows_barring_1 [4])) dNil)))) (dRet (dC (.bl false))) dNext)
    (dSeq (dIfS (dOr (dTest (dOp gIn (dVar 3) (dVar 2))) (dTest (dOp gNotIn (dC (iN 0)) (dVar 2)))) (dRet (dC (.bl false))) dNext)
    (dSeq (dLendS 2 (dFor (dItLn 2) (store 4) x_shows_barring_3))
    (dRet (dC (.bl true)))))))))
def d_shows_barring : List D → FO := denF [.fz, .ln, .ln] 6 b_shows_barring
def x_shows_serving_1 : DN.Env → O R := (dCall [.ln, .ln, .ln] d_is_independent [] (dCons (dVar 0) (dCons (dCall [.ln] d_mask_of [] (dCons (dSl (dVar 2) dNoPart (dPart (dOp gAdd (dVar 3) (dC (iN 1))))) dNil)) (dCons (dVar 1) dNil))))
def b_shows_serving : DN.Env → O Fl := (dSeq (dDrop (dCall [.fz, .ln] d_need_twice [] (dCons (dVar 0) (dCons (dVar 1) dNil))))
    (dSeq (dIfS (dOr (dNot (dTru (dCall [.ln, .ln] d_are_bits [] (dCons (dCB gLen (dConsN (dOp gIx (dVar 0) (dC (iN 0))) dNil)) (dCons (dVar 2) dNil))))) (dTest (dOp gNe2 (dCall [.ln] d_mask_of [] (dCons (dVar 2) dNil)) (dCall [.fz, .ln] d_once_of [] (dCons (dVar 0) (dCons (dVar 1) dNil)))))) (dRet (dC (.bl false))) dNext)
    (dRet (dCB gAll (dConsN (dLc (dRng rng1 (dCons (dCB gLen (dConsN (dVar 2) dNil)) dNil)) (store 3) dYes x_shows_serving_1 [3]) dNil)))))
def d_shows_serving : List D → FO := denF [.fz, .ln, .ln] 4 b_shows_serving
def x__law_barred_right_k92_1 : DN.Env → O Bool := (dTest (dOp gGt (dVar 3) (dC (iN 0))))
def b__law_barred_right_k92 : DN.Env → O Fl := (dSeq (dAsg (store 2) (dCall [.fz, .ln] d_barring_sets [] (dCons (dVar 0) (dCons (dVar 1) dNil))))
    (dSeq (dIfS (dOr (dTest (dOp gIsN (dVar 2) (dC .non))) (dOr (dNot (dTru (dCall [.fz, .ln, .ln] d_shows_barring [] (dCons (dVar 0) (dCons (dVar 1) (dCons (dVar 2) dNil)))))) (dTru (dCall [.fz, .ln] d_serves [] (dCons (dVar 0) (dCons (dVar 1) dNil)))))) (dRet (dC (.bl false))) dNext)
    (dSeq (dIfS (dOr (dNot (dTru (dCall [.fz, .ln, .ln] d_shows_barring [] (dCons (dVar 0) (dCons (dVar 1) (dCons (dUn gRev (dVar 2)) dNil)))))) (dTru (dCall [.fz, .ln, .ln] d_shows_barring [] (dCons (dVar 0) (dCons (dVar 1) (dCons (dLend 2 (dLc (dItLn 2) (store 3) x__law_barred_right_k92_1 (dVar 3) [3])) dNil)))))) (dRet (dC (.bl false))) dNext)
    (dRet (dOp gIsN (dCall [.fz, .ln] d_serving_sequence [] (dCons (dVar 0) (dCons (dVar 1) dNil))) (dC .non))))))
def d__law_barred_right_k92 : List D → FO := denF [.fz, .ln] 4 b__law_barred_right_k92
def b_fewest_stages : DN.Env → O Fl := (dSeq (dDrop (dCall [.fz] d_need_searched [] (dCons (dVar 0) dNil)))
    (dRet (dCall [.fz] d_fewest_of [] (dCons (dVar 0) dNil))))
def d_fewest_stages : List D → FO := denF [.fz] 1 b_fewest_stages
def b_run_mapping : DN.Env → O Fl := (dSeq (dDrop (dCall [.ln, .ln] d_need_both_k17 [] (dCons (dVar 0) (dCons (dVar 1) dNil))))
    (dRet (dCall [.ln, .ln] d_made_by [] (dCons (dVar 0) (dCons (dVar 1) dNil)))))
def d_run_mapping : List D → FO := denF [.ln, .ln] 2 b_run_mapping
def x__law_right_k92_1 : DN.Env → O Fl := (dIfS (dAnd (dTest (dOp gLt (dOp gAdd (dCall [.ln] d__law_width [] (dCons (dOp gAnd (dVar 3) (dUn gInv (dVar 5))) dNil)) (dOp gMul (dC (iN 2)) (dCall [.ln] d__law_width [] (dCons (dVar 5) dNil)))) (dVar 4))) (dNot (dTru (dCall [.fz, .ln] d__law_barred_right_k92 [] (dCons (dVar 2) (dCons (dVar 5) dNil)))))) (dRet (dC (.bl false))) dNext)
def b__law_right_k92 : DN.Env → O Fl := (dSeq (dAsg (store 1) (dOp gAdd (dC (iN 1)) (dCall [.io, .ln] d__law_draw [] (dCons (dVar 0) (dCons (dC (iN 5)) dNil)))))
    (dSeq (dAsg (store 2) (dCall [.io, .ln] d__law_plan [] (dCons (dVar 0) (dCons (dVar 1) dNil))))
    (dSeq (dPar [3, 4] (dCons (dCall [.fz] d__law_unlike [] (dCons (dVar 2) dNil)) (dCons (dCall [.fz] d_fewest_stages [] (dCons (dVar 2) dNil)) dNil)))
    (dSeq (dFor (dRng rng1 (dCons (dOp gShl (dC (iN 1)) (dVar 1)) dNil)) (store 5) x__law_right_k92_1)
    (dSeq (dAsg (store 6) (dCall [.fz] d_best_twice [] (dCons (dVar 2) dNil)))
    (dSeq (dIfS (dOr (dNot (dTru (dCall [.fz, .ln, .ln] d_shows_serving [] (dCons (dVar 2) (dCons (dVar 6) (dCons (dCall [.fz, .ln] d_serving_sequence [] (dCons (dVar 2) (dCons (dVar 6) dNil))) dNil)))))) (dTest (dOp gNotN (dCall [.fz, .ln] d_barring_sets [] (dCons (dVar 2) (dCons (dVar 6) dNil))) (dC .non)))) (dRet (dC (.bl false))) dNext)
    (dSeq (dAsg (store 7) (dOp gOr (dVar 6) (dOp gShl (dC (iN 1)) (dCall [.io, .ln] d__law_draw [] (dCons (dVar 0) (dCons (dVar 1) dNil))))))
    (dSeq (dIfS (dNot (dTru (dCall [.fz, .ln] d_serves [] (dCons (dVar 2) (dCons (dVar 7) dNil))))) (dRet (dC (.bl false))) dNext)
    (dSeq (dAsg (store 8) (dCall [.io, .ln] d__law_some_stage [] (dCons (dVar 0) (dCons (dVar 1) dNil))))
    (dRet (dCall [.fz, .ln] d_serves [] (dCons (dCall [.fz, .fz] d_then [] (dCons (dVar 2) (dCons (dCall [.ln, .ln] d_run_mapping [] (dCons (dVar 1) (dCons (dLst (dCons (dVar 8) dNil)) dNil))) dNil))) (dCons (dOp gOr (dVar 6) (dOp gShl (dC (iN 1)) (dOp gIx (dVar 8) (dC (iN 0))))) dNil)))))))))))))
def d__law_right_k92 : List D → FO := denF [.io] 9 b__law_right_k92
def x_law_k92_1 : DN.Env → O Fl := (dSeq (dAsg (store 3) (dCall [.ln, .ln] d__law_source [] (dCons (dVar 2) (dCons (dVar 1) dNil))))
    (dIfS (dOr (dNot (dTru (dCall [.io] d__law_right_k92 [] (dCons (dVar 3) dNil)))) (dNot (dTru (dCall [.io] d__law_right_k92 [] (dCons (dVar 3) dNil))))) (dRet (dC (.bl false))) dNext))
def b_law_k92 : DN.Env → O Fl := (dSeq (dFor (dEnum (dCons (dOp gAdd (dSl (dVar 0) dNoPart (dPart (dC (iN 4)))) (dLst (dCons (dC (iN 2)) dNil))) dNil)) (storeN [1, 2]) x_law_k92_1)
    (dRet (dC (.bl true))))
def d_law_k92 : List D → FO := denF [.fz] 4 b_law_k92
end PG
namespace K92
open PySem PySem.Spec PyProof.Rows L2 DN PG
section
variable {P : Program} {w : World} {K : PySem.W.Frag} {mg : Str → Option Value}
theorem sc_is_integer : FnScope ["value", "low", "high"] ["value", "low", "high"] (defScope st_is_integer) := ⟨rfl, rfl, rfl, by decide +kernel, rfl, by decide +kernel, by decide +kernel⟩
theorem i_is_integer {f : Addr} {fd : FuncData} (b : Bf mg)
  (hS : sysB K = true)
  (gl : mg "is_integer" = some (.ref f))
  (F : FunD K "is_integer" "is_integer" (defArgs st_is_integer) (defBody st_is_integer) (defScope st_is_integer) [.non, .non] [] f fd) : FnI P w K mg "is_integer" 1 ["value", "low", "high"] [.ln, .fz, .fz] d_is_integer f fd := by
  have bd : Binds K fd ["value", "low", "high"] [] := bind_full (F.binds1 (ps := ["value", "low", "high"]) 3 2 (by simp) rfl fun _ _ _ _ _ _ _ us its h1 h2 => match us, h1, its, h2 with | [_, _, _], _, [_, _], _ => ⟨_, rfl, rfl⟩)
  have nd := sc_is_integer.nd
  exact ⟨gl, F.kp, bd, fun base => fnd_den (Sb := []) F sc_is_integer rfl (io_ok (by decide)) fun cd A out s0 H0 E room hG tk => ⟨_, (dss_cons (ds_if (DW.dt (dw_or (dt_not (dt_truth (de_cb call_isi s_isi (by rfl) b.isinstance bb_isinstance (da_consN (de_var 0) (da_consN (de_ty (by rfl) b.int bb_int) da_nil))))) (dw_or1 (dt_truth (de_cb call_isi s_isi (by rfl) b.isinstance bb_isinstance (da_consN (de_var 0) (da_consN (de_ty (by rfl) b.bool bb_bool) da_nil))))))) (dss_one (ds_ret de_bl)) dss_nil)
    (dss_one (ds_ret (de_and (de_or (de_cmp op_isN s_isN (de_var 1) de_non) (de_one (de_cmp op_ge s_ge (de_var 0) (de_var 1)))) (de_one (de_or (de_cmp op_isN s_isN (de_var 2) de_non) (de_one (de_cmp op_le s_le (de_var 0) (de_var 2)))))))))⟩⟩
theorem sc_need_few : FnScope ["bits", "limit"] ["bits", "limit"] (defScope st_need_few) := ⟨rfl, rfl, rfl, by decide +kernel, rfl, by decide +kernel, by decide +kernel⟩
theorem i_need_few {f : Addr} {fd : FuncData} (b : Bf mg)
  (hS : sysB K = true)
  (gl : mg "need_few" = some (.ref f))
  (F : FunD K "need_few" "need_few" (defArgs st_need_few) (defBody st_need_few) (defScope st_need_few) [] [] f fd) : FnI P w K mg "need_few" 1 ["bits", "limit"] [.ln, .ln] d_need_few f fd := by
  have bd : Binds K fd ["bits", "limit"] [] := F.bindsN fun _ _ _ _ _ _ us hl => match us, hl with | [_, _], _ => rfl
  have nd := sc_need_few.nd
  exact ⟨gl, F.kp, bd, fun base => fnd_den (Sb := []) F sc_need_few rfl (io_ok (by decide)) fun cd A out s0 H0 E room hG tk => ⟨_, (dss_one (ds_if (dt_cmp op_gt s_gt (de_var 0) (de_var 1)) (dss_one ds_no) dss_nil))⟩⟩
theorem sc_parity : FnScope ["number", "left", "half"] ["number"] (defScope st_parity) := ⟨rfl, rfl, rfl, by decide +kernel, rfl, by decide +kernel, by decide +kernel⟩
theorem i_parity {f : Addr} {fd : FuncData} (b : Bf mg)
  (hS : sysB K = true)
  (gl : mg "parity" = some (.ref f))
  (F : FunD K "parity" "parity" (defArgs st_parity) (defBody st_parity) (defScope st_parity) [] [] f fd) : FnI P w K mg "parity" 1 ["number"] [.fz] d_parity f fd := by
  have bd : Binds K fd ["number"] [] := F.bindsN fun _ _ _ _ _ _ us hl => match us, hl with | [_], _ => rfl
  have nd := sc_parity.nd
  exact ⟨gl, F.kp, bd, fun base => fnd_den (Sb := [1, 2, 1]) F sc_parity rfl (io_ok (by decide)) fun cd A out s0 H0 E room hG tk => ⟨_, (dss_cons (ds_set 1 (de_var 0) nd)
    (dss_cons (ds_for (passes_of (by rfl)) (by rfl) (di_any (de_tup (da_cons de_int (da_cons de_int (da_cons de_int (da_cons de_int (da_cons de_int (da_cons de_int (da_cons de_int da_nil))))))))) (dg_name 2 nd) (dss_one (ds_aug 1 nd (de_op op_shr s_shr (de_var 1) (de_var 2)) iop_xor s_xor)))
    (dss_one (ds_ret (de_op op_and s_and (de_var 1) de_int)))))⟩⟩
theorem sc_bits_of : FnScope ["mask", "bit"] ["mask"] (defScope st_bits_of) := ⟨rfl, rfl, rfl, by decide +kernel, rfl, by decide +kernel, by decide +kernel⟩
theorem i_bits_of {f : Addr} {fd : FuncData} (b : Bf mg)
  (hS : sysB K = true)
  (gl : mg "bits_of" = some (.ref f))
  (F : FunD K "bits_of" "bits_of" (defArgs st_bits_of) (defBody st_bits_of) (defScope st_bits_of) [] [] f fd) : FnI P w K mg "bits_of" 1 ["mask"] [.ln] d_bits_of f fd := by
  have bd : Binds K fd ["mask"] [] := F.bindsN fun _ _ _ _ _ _ us hl => match us, hl with | [_], _ => rfl
  have nd := sc_bits_of.nd
  exact ⟨gl, F.kp, bd, fun base => fnd_den (Sb := []) F sc_bits_of rfl (io_ok (by decide)) fun cd A out s0 H0 E room hG tk => ⟨_, (dss_one (ds_ret (de_lcX (own := [("bit", 1)]) (by rfl) nd (di_rng1 (by rfl) b.range (da_cons (de_bits (de_var 0)) da_nil)) (blkOk_by (N := ["mask", "bit"]) (sc := defScope st_bits_of) (by decide +kernel)) (fun _ _ _ _ _ => ⟨_, (dg_name 1 nd)⟩) (fun _ _ _ _ _ => ⟨_, (dif_one (dt_cmp (op_eq2 (by exact room_64 room)) s_eq2 (de_op op_and s_and (de_op op_shr s_shr (de_var 0) (de_var 1)) de_int) de_int))⟩) (fun _ _ _ _ _ => ⟨_, (de_var 1)⟩))))⟩⟩
theorem sc_mask_of : FnScope ["some", "bit"] ["some"] (defScope st_mask_of) := ⟨rfl, rfl, rfl, by decide +kernel, rfl, by decide +kernel, by decide +kernel⟩
theorem i_mask_of {f : Addr} {fd : FuncData} (b : Bf mg)
  (hS : sysB K = true)
  (gl : mg "mask_of" = some (.ref f))
  (F : FunD K "mask_of" "mask_of" (defArgs st_mask_of) (defBody st_mask_of) (defScope st_mask_of) [] [] f fd) : FnI P w K mg "mask_of" 1 ["some"] [.ln] d_mask_of f fd := by
  have bd : Binds K fd ["some"] [] := F.bindsN fun _ _ _ _ _ _ us hl => match us, hl with | [_], _ => rfl
  have nd := sc_mask_of.nd
  exact ⟨gl, F.kp, bd, fun base => fnd_den (Sb := []) F sc_mask_of rfl (io_ok (by decide)) fun cd A out s0 H0 E room hG tk => ⟨_, (dss_one (ds_ret (de_cb (cr_sum (by rfl)) s_sum (by rfl) b.sum bb_sum (da_consN (de_lend 0 (de_lcX (own := [("bit", 1)]) (by rfl) nd (di_ln 0) (blkOk_by (N := ["some", "bit"]) (sc := defScope st_mask_of) (by decide +kernel)) (fun _ _ _ _ _ => ⟨_, (dg_name 1 nd)⟩) (fun _ _ _ _ _ => ⟨_, dif_nil⟩) (fun _ _ _ _ _ => ⟨_, (de_op op_shlW s_shl de_int (de_var 1))⟩))) da_nil))))⟩⟩
theorem sc_reduced : FnScope ["leads", "mask", "picks", "bit"] ["leads", "mask", "picks"] (defScope st_reduced) := ⟨rfl, rfl, rfl, by decide +kernel, rfl, by decide +kernel, by decide +kernel⟩
theorem i_reduced {f : Addr} {fd : FuncData} (b : Bf mg)
  (hS : sysB K = true)
  (gl : mg "reduced" = some (.ref f))
  (F : FunD K "reduced" "reduced" (defArgs st_reduced) (defBody st_reduced) (defScope st_reduced) [] [] f fd) : FnI P w K mg "reduced" 1 ["leads", "mask", "picks"] [.ln, .fz, .fz] d_reduced f fd := by
  have bd : Binds K fd ["leads", "mask", "picks"] [] := F.bindsN fun _ _ _ _ _ _ us hl => match us, hl with | [_, _, _], _ => rfl
  have nd := sc_reduced.nd
  exact ⟨gl, F.kp, bd, fun base => fnd_den (Sb := [3, 1, 2]) F sc_reduced rfl (io_ok (by decide)) fun cd A out s0 H0 E room hG tk => ⟨_, (dss_cons (ds_for (passes_of (by rfl)) (by rfl) (di_any (de_cb (c_sorted (by rfl)) s_sorted (by rfl) b.sorted bb_sorted (da_consN (de_var 0) da_nil))) (dg_name 3 nd) (dss_one (ds_if (dt_cmp (op_eq2 (by exact room_64 room)) s_eq2 (de_op op_and s_and (de_op op_shr s_shr (de_var 1) (de_var 3)) de_int) de_int) (dss_one (ds_par (by rfl) nd (by rfl) (by rfl) (by decide) (by rfl) (by rfl) (da_cons (de_op op_xor s_xor (de_var 1) (de_ix (by exact room_1 room) (de_ix (by exact room_1 room) (de_var 0) (de_var 3)) de_int)) (da_cons (de_op op_xor s_xor (de_var 2) (de_ix (by exact room_1 room) (de_ix (by exact room_1 room) (de_var 0) (de_var 3)) de_int)) da_nil)) (by rfl))) dss_nil)))
    (dss_one (ds_ret (de_tup (da_cons (de_var 1) (da_cons (de_var 2) da_nil))))))⟩⟩
theorem sc_put_together : FnScope ["masks", "indices", "found", "index"] ["masks", "indices"] (defScope st_put_together) := ⟨rfl, rfl, rfl, by decide +kernel, rfl, by decide +kernel, by decide +kernel⟩
theorem i_put_together {f : Addr} {fd : FuncData} (b : Bf mg)
  (hS : sysB K = true)
  (gl : mg "put_together" = some (.ref f))
  (F : FunD K "put_together" "put_together" (defArgs st_put_together) (defBody st_put_together) (defScope st_put_together) [] [] f fd) : FnI P w K mg "put_together" 1 ["masks", "indices"] [.ln, .ln] d_put_together f fd := by
  have bd : Binds K fd ["masks", "indices"] [] := F.bindsN fun _ _ _ _ _ _ us hl => match us, hl with | [_, _], _ => rfl
  have nd := sc_put_together.nd
  exact ⟨gl, F.kp, bd, fun base => fnd_den (Sb := [2, 3, 2]) F sc_put_together rfl (io_ok (by decide)) fun cd A out s0 H0 E room hG tk => ⟨_, (dss_cons (ds_set 2 de_int nd)
    (dss_cons (ds_lend 1 (ds_for (passes_of (by rfl)) (by rfl) (di_ln 1) (dg_name 3 nd) (dss_one (ds_aug 2 nd (de_ix (by exact room_1 room) (de_var 0) (de_var 3)) iop_xor s_xor))))
    (dss_one (ds_ret (de_var 2)))))⟩⟩
theorem sc_need_like : FnScope ["bits", "mapping"] ["bits", "mapping"] (defScope st_need_like) := ⟨rfl, rfl, rfl, by decide +kernel, rfl, by decide +kernel, by decide +kernel⟩
theorem i_need_like {f : Addr} {fd : FuncData} (b : Bf mg)
  (hS : sysB K = true)
  (gl : mg "need_like" = some (.ref f))
  (F : FunD K "need_like" "need_like" (defArgs st_need_like) (defBody st_need_like) (defScope st_need_like) [] [] f fd)
  (xc_UnlikeBits : ExF K mg "UnlikeBits") : FnI P w K mg "need_like" 1 ["bits", "mapping"] [.ln, .ln] d_need_like f fd := by
  have bd : Binds K fd ["bits", "mapping"] [] := F.bindsN fun _ _ _ _ _ _ us hl => match us, hl with | [_, _], _ => rfl
  have nd := sc_need_like.nd
  exact ⟨gl, F.kp, bd, fun base => fnd_den (Sb := []) F sc_need_like rfl (io_ok (by decide)) fun cd A out s0 H0 E room hG tk => ⟨_, (dss_one (ds_if (dt_cmp (op_ne2 (by exact room_64 room)) s_ne2 (de_cb c_len s_len (by rfl) b.len bb_len (da_consN (de_ix (by exact room_1 room) (de_var 1) de_int) da_nil)) (de_var 0)) (dss_one (ds_raise xc_UnlikeBits (by rfl) tk (by rfl))) dss_nil))⟩⟩
theorem sc_identity : FnScope ["bits", "bit"] ["bits"] (defScope st_identity) := ⟨rfl, rfl, rfl, by decide +kernel, rfl, by decide +kernel, by decide +kernel⟩
theorem i_identity {f : Addr} {fd : FuncData} (b : Bf mg)
  (hS : sysB K = true)
  (gl : mg "identity" = some (.ref f))
  (F : FunD K "identity" "identity" (defArgs st_identity) (defBody st_identity) (defScope st_identity) [] [] f fd) : FnI P w K mg "identity" 1 ["bits"] [.ln] d_identity f fd := by
  have bd : Binds K fd ["bits"] [] := F.bindsN fun _ _ _ _ _ _ us hl => match us, hl with | [_], _ => rfl
  have nd := sc_identity.nd
  exact ⟨gl, F.kp, bd, fun base => fnd_den (Sb := []) F sc_identity rfl (io_ok (by decide)) fun cd A out s0 H0 E room hG tk => ⟨_, (dss_one (ds_ret (de_tup (da_cons (de_lcX (own := [("bit", 1)]) (by rfl) nd (di_rng1 (by rfl) b.range (da_cons (de_var 0) da_nil)) (blkOk_by (N := ["bits", "bit"]) (sc := defScope st_identity) (by decide +kernel)) (fun _ _ _ _ _ => ⟨_, (dg_name 1 nd)⟩) (fun _ _ _ _ _ => ⟨_, dif_nil⟩) (fun _ _ _ _ _ => ⟨_, (de_op op_shlW s_shl de_int (de_var 1))⟩)) (da_cons de_int da_nil)))))⟩⟩
theorem sc_is_moving : FnScope ["mapping", "row"] ["mapping"] (defScope st_is_moving) := ⟨rfl, rfl, rfl, by decide +kernel, rfl, by decide +kernel, by decide +kernel⟩
theorem i_is_moving {f : Addr} {fd : FuncData} (b : Bf mg)
  (hS : sysB K = true)
  (gl : mg "is_moving" = some (.ref f))
  (F : FunD K "is_moving" "is_moving" (defArgs st_is_moving) (defBody st_is_moving) (defScope st_is_moving) [] [] f fd) : FnI P w K mg "is_moving" 1 ["mapping"] [.ln] d_is_moving f fd := by
  have bd : Binds K fd ["mapping"] [] := F.bindsN fun _ _ _ _ _ _ us hl => match us, hl with | [_], _ => rfl
  have nd := sc_is_moving.nd
  exact ⟨gl, F.kp, bd, fun base => fnd_den (Sb := []) F sc_is_moving rfl (io_ok (by decide)) fun cd A out s0 H0 E room hG tk => ⟨_, (dss_one (ds_ret (de_cb (cr_all (by rfl)) s_all (by rfl) b.all bb_all (da_consN (de_lcX (own := [("row", 1)]) (by rfl) nd (di_any (de_ix (by exact room_1 room) (de_var 0) de_int)) (blkOk_by (N := ["mapping", "row"]) (sc := defScope st_is_moving) (by decide +kernel)) (fun _ _ _ _ _ => ⟨_, (dg_name 1 nd)⟩) (fun _ _ _ _ _ => ⟨_, dif_nil⟩) (fun _ _ _ _ _ => ⟨_, (de_cmp (op_eq2 (by exact room_64 room)) s_eq2 (de_op op_and s_and (de_var 1) (de_op op_sub s_sub (de_var 1) de_int)) de_int)⟩)) da_nil))))⟩⟩
theorem sc_changed_of : FnScope ["mapping", "rows", "offset", "bit", "row"] ["mapping"] (defScope st_changed_of) := ⟨rfl, rfl, rfl, by decide +kernel, rfl, by decide +kernel, by decide +kernel⟩
theorem i_changed_of {f : Addr} {fd : FuncData} (b : Bf mg)
  (hS : sysB K = true)
  (gl : mg "changed_of" = some (.ref f))
  (F : FunD K "changed_of" "changed_of" (defArgs st_changed_of) (defBody st_changed_of) (defScope st_changed_of) [] [] f fd) : FnI P w K mg "changed_of" 1 ["mapping"] [.fz] d_changed_of f fd := by
  have bd : Binds K fd ["mapping"] [] := F.bindsN fun _ _ _ _ _ _ us hl => match us, hl with | [_], _ => rfl
  have nd := sc_changed_of.nd
  exact ⟨gl, F.kp, bd, fun base => fnd_den (Sb := [1, 2]) F sc_changed_of rfl (io_ok (by decide)) fun cd A out s0 H0 E room hG tk => ⟨_, (dss_cons (ds_asg (dg_tup (by rfl) (dgn_cons 1 nd (dgn_cons 2 nd dgn_nil))) (de_var 0))
    (dss_one (ds_ret (de_lend 1 (de_lcX (own := [("bit", 3), ("row", 4)]) (by rfl) nd (di_enumLn 1 (by rfl) b.enumerate) (blkOk_by (N := ["mapping", "rows", "offset", "bit", "row"]) (sc := defScope st_changed_of) (by decide +kernel)) (fun _ _ _ _ _ => ⟨_, (dg_tup (by rfl) (dgn_cons 3 nd (dgn_cons 4 nd dgn_nil)))⟩) (fun _ _ _ _ _ => ⟨_, (dif_one (DW.dt (dw_or (dt_cmp (op_ne2 (by exact room_64 room)) s_ne2 (de_var 4) (de_op op_shlW s_shl de_int (de_var 3))) (dw_or1 (dt_cmp (op_eq2 (by exact room_64 room)) s_eq2 (de_op op_and s_and (de_op op_shr s_shr (de_var 2) (de_var 3)) de_int) de_int)))))⟩) (fun _ _ _ _ _ => ⟨_, (de_var 3)⟩))))))⟩⟩
theorem sc_independent_count : FnScope ["masks", "kept", "mask", "left", "other"] ["masks"] (defScope st_independent_count) := ⟨rfl, rfl, rfl, by decide +kernel, rfl, by decide +kernel, by decide +kernel⟩
theorem i_independent_count {f : Addr} {fd : FuncData} (b : Bf mg)
  (hS : sysB K = true)
  (gl : mg "independent_count" = some (.ref f))
  (F : FunD K "independent_count" "independent_count" (defArgs st_independent_count) (defBody st_independent_count) (defScope st_independent_count) [] [] f fd) : FnI P w K mg "independent_count" 1 ["masks"] [.ln] d_independent_count f fd := by
  have bd : Binds K fd ["masks"] [] := F.bindsN fun _ _ _ _ _ _ us hl => match us, hl with | [_], _ => rfl
  have nd := sc_independent_count.nd
  exact ⟨gl, F.kp, bd, fun base => fnd_den (Sb := [1, 2, 3, 4, 3]) F sc_independent_count rfl (io_ok (by decide)) fun cd A out s0 H0 E room hG tk => ⟨_, (dss_cons (ds_set 1 (de_lst da_nil) nd)
    (dss_cons (ds_lend 0 (ds_for (passes_of (by rfl)) (by rfl) (di_ln 0) (dg_name 2 nd) (dss_cons (ds_set 3 (de_var 2) nd)
    (dss_cons (ds_lend 1 (ds_for (passes_of (by rfl)) (by rfl) (di_ln 1) (dg_name 4 nd) (dss_one (ds_set 3 (de_cb (c_min (by rfl)) s_min (by rfl) b.min bb_min (da_consN (de_var 3) (da_consN (de_op op_xor s_xor (de_var 3) (de_var 4)) da_nil))) nd))))
    (dss_one (ds_if (dt_cmp op_gt s_gt (de_var 3) de_int) (dss_one (ds_expr (de_bm 1 PySem.F.plainAttrs_list PySem.F.slot_list_append PySem.F.type_list_append mt_append ty_lst s_append (da_cons (de_var 3) da_nil)))) dss_nil))))))
    (dss_one (ds_ret (de_cb c_len s_len (by rfl) b.len bb_len (da_consN (de_var 1) da_nil))))))⟩⟩
theorem sc_sequence_to : FnScope ["found", "some", "bits", "less"] ["found", "some"] (defScope st_sequence_to) := ⟨rfl, rfl, rfl, by decide +kernel, rfl, by decide +kernel, by decide +kernel⟩
theorem i_sequence_to {f : Addr} {fd : FuncData} (b : Bf mg)
  (hS : sysB K = true)
  (gl : mg "sequence_to" = some (.ref f))
  (F : FunD K "sequence_to" "sequence_to" (defArgs st_sequence_to) (defBody st_sequence_to) (defScope st_sequence_to) [] [] f fd) : FnI P w K mg "sequence_to" 1 ["found", "some"] [.ln, .ln] d_sequence_to f fd := by
  have bd : Binds K fd ["found", "some"] [] := F.bindsN fun _ _ _ _ _ _ us hl => match us, hl with | [_, _], _ => rfl
  have nd := sc_sequence_to.nd
  exact ⟨gl, F.kp, bd, fun base => fnd_den (Sb := [2, 3, 1]) F sc_sequence_to rfl (io_ok (by decide)) fun cd A out s0 H0 E room hG tk => ⟨_, (dss_cons (ds_set 2 (de_lst da_nil) nd)
    (dss_cons (ds_while fuel (passes_of (by rfl)) (dt_cmp (op_ne2 (by exact room_64 room)) s_ne2 (de_var 1) de_int) (dss_cons (ds_set 3 (de_ix (by exact room_1 room) (de_var 0) (de_var 1)) nd)
    (dss_cons (ds_expr (de_bm 2 PySem.F.plainAttrs_list PySem.F.slot_list_append PySem.F.type_list_append mt_append ty_lst s_append (da_cons (de_op op_sub s_sub (de_bits (de_op op_xor s_xor (de_var 1) (de_var 3))) de_int) da_nil)))
    (dss_one (ds_set 1 (de_var 3) nd)))))
    (dss_one (ds_ret (de_rev (de_var 2))))))⟩⟩
theorem sc_rings_of : FnScope ["mapping", "rows", "found", "known", "bit", "row", "ring", "here"] ["mapping"] (defScope st_rings_of) := ⟨rfl, rfl, rfl, by decide +kernel, rfl, by decide +kernel, by decide +kernel⟩
theorem i_rings_of {f : Addr} {fd : FuncData} (b : Bf mg)
  (hS : sysB K = true)
  (gl : mg "rings_of" = some (.ref f))
  (F : FunD K "rings_of" "rings_of" (defArgs st_rings_of) (defBody st_rings_of) (defScope st_rings_of) [] [] f fd) : FnI P w K mg "rings_of" 1 ["mapping"] [.ln] d_rings_of f fd := by
  have bd : Binds K fd ["mapping"] [] := F.bindsN fun _ _ _ _ _ _ us hl => match us, hl with | [_], _ => rfl
  have nd := sc_rings_of.nd
  exact ⟨gl, F.kp, bd, fun base => fnd_den (Sb := [1, 2, 3, 4, 5, 6, 7, 3, 7]) F sc_rings_of rfl (io_ok (by decide)) fun cd A out s0 H0 E room hG tk => ⟨_, (dss_cons (ds_set 1 (de_ix (by exact room_1 room) (de_var 0) de_int) nd)
    (dss_cons (ds_par (by rfl) nd (by rfl) (by rfl) (by decide) (by rfl) (by rfl) (da_cons (de_lst da_nil) (da_cons de_int da_nil)) (by rfl))
    (dss_cons (ds_lend 1 (ds_for (passes_of (by rfl)) (by rfl) (di_enumLn 1 (by rfl) b.enumerate) (dg_tup (by rfl) (dgn_cons 4 nd (dgn_cons 5 nd dgn_nil))) (dss_one (ds_if (DW.dt (dw_and (dt_cmp (op_ne2 (by exact room_64 room)) s_ne2 (de_var 5) (de_op op_shlW s_shl de_int (de_var 4))) (dw_and1 (dt_cmp (op_eq2 (by exact room_64 room)) s_eq2 (de_op op_and s_and (de_op op_shr s_shr (de_var 3) (de_var 4)) de_int) de_int)))) (dss_cons (ds_par (by rfl) nd (by rfl) (by rfl) (by decide) (by rfl) (by rfl) (da_cons (de_lst da_nil) (da_cons (de_var 4) da_nil)) (by rfl))
    (dss_cons (ds_while fuel (passes_of (by rfl)) (dt_cmp (op_eq2 (by exact room_64 room)) s_eq2 (de_op op_and s_and (de_op op_shr s_shr (de_var 3) (de_var 7)) de_int) de_int) (dss_cons (ds_aug 3 nd (de_op op_shlW s_shl de_int (de_var 7)) iop_or s_or)
    (dss_cons (ds_expr (de_bm 6 PySem.F.plainAttrs_list PySem.F.slot_list_append PySem.F.type_list_append mt_append ty_lst s_append (da_cons (de_var 7) da_nil)))
    (dss_one (ds_set 7 (de_op op_sub s_sub (de_bits (de_ix (by exact room_1 room) (de_var 1) (de_var 7))) de_int) nd)))))
    (dss_one (ds_expr (de_bm 2 PySem.F.plainAttrs_list PySem.F.slot_list_append PySem.F.type_list_append mt_append ty_lst s_append (da_cons (de_var 6) da_nil)))))) dss_nil))))
    (dss_one (ds_ret (de_var 2))))))⟩⟩
theorem sc__law_source : FnScope ["cell", "k", "great"] ["cell", "k"] (defScope st__law_source) := ⟨rfl, rfl, rfl, by decide +kernel, rfl, by decide +kernel, by decide +kernel⟩
theorem i__law_source {f : Addr} {fd : FuncData} (b : Bf mg)
  (hS : sysB K = true)
  (gl : mg "_law_source" = some (.ref f))
  (F : FunD K "_law_source" "_law_source" (defArgs st__law_source) (defBody st__law_source) (defScope st__law_source) [] [] f fd) : FnI P w K mg "_law_source" 1 ["cell", "k"] [.ln, .ln] d__law_source f fd := by
  have bd : Binds K fd ["cell", "k"] [] := F.bindsN fun _ _ _ _ _ _ us hl => match us, hl with | [_, _], _ => rfl
  have nd := sc__law_source.nd
  exact ⟨gl, F.kp, bd, fun base => fnd_den (Sb := [2]) F sc__law_source rfl (io_ok (by decide)) fun cd A out s0 H0 E room hG tk => ⟨_, (dss_cons (ds_set 2 (de_cb call_abs s_abs (by rfl) b.abs bb_abs (da_consN (de_var 0) da_nil)) nd)
    (dss_one (ds_ret (de_lst (da_cons (de_cb (c_max (by rfl)) s_max (by rfl) b.max bb_max (da_consN de_int (da_consN (de_op op_sub s_sub (de_var 2) (de_op o_pow s_pow de_int de_int)) da_nil))) (da_cons (de_op o_add s_add (de_op o_add s_add (de_op o_mul s_mul (de_op op_mod s_mod (de_ct call_int1 s_int (by rfl) b.int bb_int (da_consN (de_var 2) da_nil)) (de_op o_add s_add (de_op o_pow s_pow de_int de_int) de_int)) de_int) (de_op o_mul s_mul de_int (de_var 1))) (de_ct call_int1 s_int (by rfl) b.int bb_int (da_consN (de_cmp op_lt s_lt (de_var 0) de_int) da_nil))) (da_cons de_int da_nil)))))))⟩⟩
theorem sc__law_draw : FnScope ["source", "count", "digit", "mixed"] ["source", "count"] (defScope st__law_draw) := ⟨rfl, rfl, rfl, by decide +kernel, rfl, by decide +kernel, by decide +kernel⟩
theorem i__law_draw {f : Addr} {fd : FuncData} (b : Bf mg)
  (hS : sysB K = true)
  (gl : mg "_law_draw" = some (.ref f))
  (F : FunD K "_law_draw" "_law_draw" (defArgs st__law_draw) (defBody st__law_draw) (defScope st__law_draw) [] [] f fd) : FnI P w K mg "_law_draw" 1 ["source", "count"] [.io, .ln] d__law_draw f fd := by
  have bd : Binds K fd ["source", "count"] [] := F.bindsN fun _ _ _ _ _ _ us hl => match us, hl with | [_, _], _ => rfl
  have nd := sc__law_draw.nd
  exact ⟨gl, F.kp, bd, fun base => fnd_den (Sb := [2, 3, 3]) F sc__law_draw rfl (io_ok (by decide)) fun cd A out s0 H0 E room hG tk => ⟨_, (dss_cons (ds_if (dt_cmp op_gt s_gt (de_ix (by exact room_1 room) (de_var 0) de_int) de_int) (dss_cons (ds_set 2 (de_op op_mod s_mod (de_ct call_int1 s_int (by rfl) b.int bb_int (da_consN (de_ix (by exact room_1 room) (de_var 0) de_int) da_nil)) (de_var 1)) nd)
    (dss_cons (ds_setI 0 (by exact room_1 room) de_int (de_op op_fdivW s_div (de_ix (by exact room_1 room) (de_var 0) de_int) (de_var 1)))
    (dss_one (ds_ret (de_var 2))))) dss_nil)
    (dss_cons (ds_setI 0 (by exact room_1 room) de_int (de_op o_add s_add (de_ix (by exact room_1 room) (de_var 0) de_int) de_int))
    (dss_cons (ds_set 3 (de_op op_mod s_mod (de_ct call_int1 s_int (by rfl) b.int bb_int (da_consN (de_op o_pow s_pow (de_op o_add s_add (de_ix (by exact room_1 room) (de_var 0) de_int) (de_op o_mul s_mul de_int (de_ix (by exact room_1 room) (de_var 0) de_int))) de_int) da_nil)) (de_op o_add s_add (de_op o_pow s_pow de_int de_int) de_int)) nd)
    (dss_cons (ds_set 3 (de_op op_mod s_mod (de_ct call_int1 s_int (by rfl) b.int bb_int (da_consN (de_op o_pow s_pow (de_op o_add s_add (de_op o_mul s_mul (de_var 3) (de_ix (by exact room_1 room) (de_var 0) de_int)) de_int) de_int) da_nil)) (de_op o_add s_add (de_op o_pow s_pow de_int de_int) de_int)) nd)
    (dss_one (ds_ret (de_op op_mod s_mod (de_ct call_int1 s_int (by rfl) b.int bb_int (da_consN (de_op op_fdivW s_div (de_var 3) de_int) da_nil)) (de_var 1))))))))⟩⟩
theorem sc__law_odd : FnScope ["spot", "found"] ["spot"] (defScope st__law_odd) := ⟨rfl, rfl, rfl, by decide +kernel, rfl, by decide +kernel, by decide +kernel⟩
theorem i__law_odd {f : Addr} {fd : FuncData} (b : Bf mg)
  (hS : sysB K = true)
  (gl : mg "_law_odd" = some (.ref f))
  (F : FunD K "_law_odd" "_law_odd" (defArgs st__law_odd) (defBody st__law_odd) (defScope st__law_odd) [] [] f fd) : FnI P w K mg "_law_odd" 1 ["spot"] [.ln] d__law_odd f fd := by
  have bd : Binds K fd ["spot"] [] := F.bindsN fun _ _ _ _ _ _ us hl => match us, hl with | [_], _ => rfl
  have nd := sc__law_odd.nd
  exact ⟨gl, F.kp, bd, fun base => fnd_den (Sb := [1, 0, 1]) F sc__law_odd rfl (io_ok (by decide)) fun cd A out s0 H0 E room hG tk => ⟨_, (dss_cons (ds_set 1 de_int nd)
    (dss_cons (ds_while fuel (passes_of (by rfl)) (dt_cmp op_gt s_gt (de_var 0) de_int) (dss_cons (ds_set 0 (de_op op_and s_and (de_var 0) (de_op op_sub s_sub (de_var 0) de_int)) nd)
    (dss_one (ds_set 1 (de_op op_sub s_sub de_int (de_var 1)) nd))))
    (dss_one (ds_ret (de_var 1)))))⟩⟩
theorem sc__law_width : FnScope ["sieve", "found"] ["sieve"] (defScope st__law_width) := ⟨rfl, rfl, rfl, by decide +kernel, rfl, by decide +kernel, by decide +kernel⟩
theorem i__law_width {f : Addr} {fd : FuncData} (b : Bf mg)
  (hS : sysB K = true)
  (gl : mg "_law_width" = some (.ref f))
  (F : FunD K "_law_width" "_law_width" (defArgs st__law_width) (defBody st__law_width) (defScope st__law_width) [] [] f fd) : FnI P w K mg "_law_width" 1 ["sieve"] [.ln] d__law_width f fd := by
  have bd : Binds K fd ["sieve"] [] := F.bindsN fun _ _ _ _ _ _ us hl => match us, hl with | [_], _ => rfl
  have nd := sc__law_width.nd
  exact ⟨gl, F.kp, bd, fun base => fnd_den (Sb := [1, 0, 1]) F sc__law_width rfl (io_ok (by decide)) fun cd A out s0 H0 E room hG tk => ⟨_, (dss_cons (ds_set 1 de_int nd)
    (dss_cons (ds_while fuel (passes_of (by rfl)) (dt_cmp op_gt s_gt (de_var 0) de_int) (dss_cons (ds_set 0 (de_op op_and s_and (de_var 0) (de_op op_sub s_sub (de_var 0) de_int)) nd)
    (dss_one (ds_set 1 (de_op o_add s_add (de_var 1) de_int) nd))))
    (dss_one (ds_ret (de_var 1)))))⟩⟩
theorem sc__law_unlike : FnScope ["plan", "rows", "offset", "found", "k", "row"] ["plan"] (defScope st__law_unlike) := ⟨rfl, rfl, rfl, by decide +kernel, rfl, by decide +kernel, by decide +kernel⟩
theorem i__law_unlike {f : Addr} {fd : FuncData} (b : Bf mg)
  (hS : sysB K = true)
  (gl : mg "_law_unlike" = some (.ref f))
  (F : FunD K "_law_unlike" "_law_unlike" (defArgs st__law_unlike) (defBody st__law_unlike) (defScope st__law_unlike) [] [] f fd) : FnI P w K mg "_law_unlike" 1 ["plan"] [.fz] d__law_unlike f fd := by
  have bd : Binds K fd ["plan"] [] := F.bindsN fun _ _ _ _ _ _ us hl => match us, hl with | [_], _ => rfl
  have nd := sc__law_unlike.nd
  exact ⟨gl, F.kp, bd, fun base => fnd_den (Sb := [1, 2, 3, 4, 5, 3]) F sc__law_unlike rfl (io_ok (by decide)) fun cd A out s0 H0 E room hG tk => ⟨_, (dss_cons (ds_asg (dg_tup (by rfl) (dgn_cons 1 nd (dgn_cons 2 nd dgn_nil))) (de_var 0))
    (dss_cons (ds_set 3 (de_var 2) nd)
    (dss_cons (ds_lend 1 (ds_for (passes_of (by rfl)) (by rfl) (di_enumLn 1 (by rfl) b.enumerate) (dg_tup (by rfl) (dgn_cons 4 nd (dgn_cons 5 nd dgn_nil))) (dss_one (ds_set 3 (de_op op_or s_or (de_var 3) (de_op op_shlW s_shl (de_ct call_int1 s_int (by rfl) b.int bb_int (da_consN (de_cmp (op_ne2 (by exact room_64 room)) s_ne2 (de_var 5) (de_op op_shlW s_shl de_int (de_var 4))) da_nil)) (de_var 4))) nd))))
    (dss_one (ds_ret (de_var 3))))))⟩⟩
theorem sc_need_bits : FnScope ["bits"] ["bits"] (defScope st_need_bits) := ⟨rfl, rfl, rfl, by decide +kernel, rfl, by decide +kernel, by decide +kernel⟩
theorem i_need_bits {f : Addr} {fd : FuncData} (b : Bf mg)
  (hS : sysB K = true)
  (gl : mg "need_bits" = some (.ref f))
  (F : FunD K "need_bits" "need_bits" (defArgs st_need_bits) (defBody st_need_bits) (defScope st_need_bits) [] [] f fd)
  (k_MOST_BITS : ∃ t, mg "MOST_BITS" = some (.int 60 t))
  {f_is_integer : Addr} {fd_is_integer : FuncData} (h_is_integer : FnI P w K mg "is_integer" 1 ["value", "low", "high"] [.ln, .fz, .fz] d_is_integer f_is_integer fd_is_integer)
  (xc_InvalidBits : ExF K mg "InvalidBits") : FnI P w K mg "need_bits" 2 ["bits"] [.ln] d_need_bits f fd := by
  have bd : Binds K fd ["bits"] [] := F.bindsN fun _ _ _ _ _ _ us hl => match us, hl with | [_], _ => rfl
  have nd := sc_need_bits.nd
  exact ⟨gl, F.kp, bd, fun base => fnd_den (Sb := []) F sc_need_bits rfl (io_ok (by decide)) fun cd A out s0 H0 E room hG tk => ⟨_, (dss_one (ds_if (dt_not (dt_truth (de_callI h_is_integer room (by decide) hG tk (by rfl) (da_cons (de_var 0) (da_cons de_int (da_cons (de_globI (by rfl) k_MOST_BITS) da_nil)))))) (dss_one (ds_raise xc_InvalidBits (by rfl) tk (by rfl))) dss_nil))⟩⟩
theorem sc_is_place : FnScope ["bits", "value"] ["bits", "value"] (defScope st_is_place) := ⟨rfl, rfl, rfl, by decide +kernel, rfl, by decide +kernel, by decide +kernel⟩
theorem i_is_place {f : Addr} {fd : FuncData} (b : Bf mg)
  (hS : sysB K = true)
  (gl : mg "is_place" = some (.ref f))
  (F : FunD K "is_place" "is_place" (defArgs st_is_place) (defBody st_is_place) (defScope st_is_place) [] [] f fd)
  {f_is_integer : Addr} {fd_is_integer : FuncData} (h_is_integer : FnI P w K mg "is_integer" 1 ["value", "low", "high"] [.ln, .fz, .fz] d_is_integer f_is_integer fd_is_integer) : FnI P w K mg "is_place" 2 ["bits", "value"] [.ln, .ln] d_is_place f fd := by
  have bd : Binds K fd ["bits", "value"] [] := F.bindsN fun _ _ _ _ _ _ us hl => match us, hl with | [_, _], _ => rfl
  have nd := sc_is_place.nd
  exact ⟨gl, F.kp, bd, fun base => fnd_den (Sb := []) F sc_is_place rfl (io_ok (by decide)) fun cd A out s0 H0 E room hG tk => ⟨_, (dss_one (ds_ret (de_callI h_is_integer room (by decide) hG tk (by rfl) (da_cons (de_var 1) (da_cons de_int (da_cons (de_op op_sub s_sub (de_op op_shlW s_shl de_int (de_var 0)) de_int) da_nil))))))⟩⟩
theorem sc_are_bits : FnScope ["bits", "value", "known", "bit"] ["bits", "value"] (defScope st_are_bits) := ⟨rfl, rfl, rfl, by decide +kernel, rfl, by decide +kernel, by decide +kernel⟩
theorem i_are_bits {f : Addr} {fd : FuncData} (b : Bf mg)
  (hS : sysB K = true)
  (gl : mg "are_bits" = some (.ref f))
  (F : FunD K "are_bits" "are_bits" (defArgs st_are_bits) (defBody st_are_bits) (defScope st_are_bits) [] [] f fd)
  {f_is_integer : Addr} {fd_is_integer : FuncData} (h_is_integer : FnI P w K mg "is_integer" 1 ["value", "low", "high"] [.ln, .fz, .fz] d_is_integer f_is_integer fd_is_integer) : FnI P w K mg "are_bits" 2 ["bits", "value"] [.ln, .ln] d_are_bits f fd := by
  have bd : Binds K fd ["bits", "value"] [] := F.bindsN fun _ _ _ _ _ _ us hl => match us, hl with | [_, _], _ => rfl
  have nd := sc_are_bits.nd
  exact ⟨gl, F.kp, bd, fun base => fnd_den (Sb := [2, 3]) F sc_are_bits rfl (io_ok (by decide)) fun cd A out s0 H0 E room hG tk => ⟨_, (dss_cons (ds_if (DW.dt (dw_or (dt_not (dt_truth (de_cb call_isi s_isi (by rfl) b.isinstance bb_isinstance (da_consN (de_var 1) (da_consN (de_ty (by rfl) b.list bb_list) da_nil))))) (dw_or1 (dt_cmp op_gt s_gt (de_cb c_len s_len (by rfl) b.len bb_len (da_consN (de_var 1) da_nil)) (de_var 0))))) (dss_one (ds_ret de_bl)) dss_nil)
    (dss_cons (ds_set 2 de_dnew nd)
    (dss_cons (ds_lend 1 (ds_for (passes_of (by rfl)) (by rfl) (di_ln 1) (dg_name 3 nd) (dss_cons (ds_if (DW.dt (dw_or (dt_not (dt_truth (de_callI h_is_integer room (by decide) hG tk (by rfl) (da_cons (de_var 3) (da_cons de_int (da_cons (de_op op_sub s_sub (de_var 0) de_int) da_nil)))))) (dw_or1 (dt_cmp (op_inX (by exact room_65 room)) s_in (de_var 3) (de_var 2))))) (dss_one (ds_ret de_bl)) dss_nil)
    (dss_one (ds_setI 2 (by exact room_1 room) (de_var 3) de_bl)))))
    (dss_one (ds_ret de_bl)))))⟩⟩
theorem sc_moved : FnScope ["mapping", "place", "rows", "offset", "bit", "row"] ["mapping", "place"] (defScope st_moved) := ⟨rfl, rfl, rfl, by decide +kernel, rfl, by decide +kernel, by decide +kernel⟩
theorem i_moved {f : Addr} {fd : FuncData} (b : Bf mg)
  (hS : sysB K = true)
  (gl : mg "moved" = some (.ref f))
  (F : FunD K "moved" "moved" (defArgs st_moved) (defBody st_moved) (defScope st_moved) [] [] f fd)
  {f_parity : Addr} {fd_parity : FuncData} (h_parity : FnI P w K mg "parity" 1 ["number"] [.fz] d_parity f_parity fd_parity) : FnI P w K mg "moved" 2 ["mapping", "place"] [.fz, .ln] d_moved f fd := by
  have bd : Binds K fd ["mapping", "place"] [] := F.bindsN fun _ _ _ _ _ _ us hl => match us, hl with | [_, _], _ => rfl
  have nd := sc_moved.nd
  exact ⟨gl, F.kp, bd, fun base => fnd_den (Sb := [2, 3]) F sc_moved rfl (io_ok (by decide)) fun cd A out s0 H0 E room hG tk => ⟨_, (dss_cons (ds_asg (dg_tup (by rfl) (dgn_cons 2 nd (dgn_cons 3 nd dgn_nil))) (de_var 0))
    (dss_one (ds_ret (de_op op_xor s_xor (de_var 3) (de_cb (cr_sum (by rfl)) s_sum (by rfl) b.sum bb_sum (da_consN (de_lend 2 (de_lcX (own := [("bit", 4), ("row", 5)]) (by rfl) nd (di_enumLn 2 (by rfl) b.enumerate) (blkOk_by (N := ["mapping", "place", "rows", "offset", "bit", "row"]) (sc := defScope st_moved) (by decide +kernel)) (fun _ _ _ _ _ => ⟨_, (dg_tup (by rfl) (dgn_cons 4 nd (dgn_cons 5 nd dgn_nil)))⟩) (fun _ _ _ _ _ => ⟨_, dif_nil⟩) (fun _ _ _ _ _ => ⟨_, (de_op op_shlW s_shl (de_callI h_parity room (by decide) hG takes0 (by rfl) (da_cons (de_op op_and s_and (de_var 5) (de_var 1)) da_nil)) (de_var 4))⟩))) da_nil))))))⟩⟩
theorem sc_made_by : FnScope ["bits", "run", "rows", "offset", "bit", "mask", "flip"] ["bits", "run"] (defScope st_made_by) := ⟨rfl, rfl, rfl, by decide +kernel, rfl, by decide +kernel, by decide +kernel⟩
theorem i_made_by {f : Addr} {fd : FuncData} (b : Bf mg)
  (hS : sysB K = true)
  (gl : mg "made_by" = some (.ref f))
  (F : FunD K "made_by" "made_by" (defArgs st_made_by) (defBody st_made_by) (defScope st_made_by) [] [] f fd)
  {f_identity : Addr} {fd_identity : FuncData} (h_identity : FnI P w K mg "identity" 1 ["bits"] [.ln] d_identity f_identity fd_identity)
  {f_put_together : Addr} {fd_put_together : FuncData} (h_put_together : FnI P w K mg "put_together" 1 ["masks", "indices"] [.ln, .ln] d_put_together f_put_together fd_put_together)
  {f_bits_of : Addr} {fd_bits_of : FuncData} (h_bits_of : FnI P w K mg "bits_of" 1 ["mask"] [.ln] d_bits_of f_bits_of fd_bits_of)
  {f_parity : Addr} {fd_parity : FuncData} (h_parity : FnI P w K mg "parity" 1 ["number"] [.fz] d_parity f_parity fd_parity) : FnI P w K mg "made_by" 2 ["bits", "run"] [.ln, .ln] d_made_by f fd := by
  have bd : Binds K fd ["bits", "run"] [] := F.bindsN fun _ _ _ _ _ _ us hl => match us, hl with | [_, _], _ => rfl
  have nd := sc_made_by.nd
  exact ⟨gl, F.kp, bd, fun base => fnd_den (Sb := [2, 3, 4, 5, 6, 3]) F sc_made_by rfl (io_ok (by decide)) fun cd A out s0 H0 E room hG tk => ⟨_, (dss_cons (ds_asg (dg_tup (by rfl) (dgn_cons 2 nd (dgn_cons 3 nd dgn_nil))) (de_callI h_identity room (by decide) hG tk (by rfl) (da_cons (de_var 0) da_nil)))
    (dss_cons (ds_lend 1 (ds_for (passes_of (by rfl)) (by rfl) (di_ln 1) (dg_tup (by rfl) (dgn_cons 4 nd (dgn_cons 5 nd (dgn_cons 6 nd dgn_nil)))) (dss_cons (ds_augI 2 (by exact room_1 room) iop_xor s_xor (de_var 4) (de_callI h_put_together room (by decide) hG tk (by rfl) (da_cons (de_var 2) (da_cons (de_callI h_bits_of room (by decide) hG tk (by rfl) (da_cons (de_var 5) da_nil)) da_nil))))
    (dss_one (ds_aug 3 nd (de_op op_shlW s_shl (de_op op_xor s_xor (de_callI h_parity room (by decide) hG tk (by rfl) (da_cons (de_op op_and s_and (de_var 5) (de_var 3)) da_nil)) (de_var 6)) (de_var 4)) iop_xor s_xor)))))
    (dss_one (ds_ret (de_tup (da_cons (de_var 2) (da_cons (de_var 3) da_nil)))))))⟩⟩
theorem sc_is_independent : FnScope ["mapping", "some", "twice", "rows", "bit"] ["mapping", "some", "twice"] (defScope st_is_independent) := ⟨rfl, rfl, rfl, by decide +kernel, rfl, by decide +kernel, by decide +kernel⟩
theorem i_is_independent {f : Addr} {fd : FuncData} (b : Bf mg)
  (hS : sysB K = true)
  (gl : mg "is_independent" = some (.ref f))
  (F : FunD K "is_independent" "is_independent" (defArgs st_is_independent) (defBody st_is_independent) (defScope st_is_independent) [] [] f fd)
  {f_independent_count : Addr} {fd_independent_count : FuncData} (h_independent_count : FnI P w K mg "independent_count" 1 ["masks"] [.ln] d_independent_count f_independent_count fd_independent_count)
  {f_bits_of : Addr} {fd_bits_of : FuncData} (h_bits_of : FnI P w K mg "bits_of" 1 ["mask"] [.ln] d_bits_of f_bits_of fd_bits_of) : FnI P w K mg "is_independent" 2 ["mapping", "some", "twice"] [.ln, .ln, .ln] d_is_independent f fd := by
  have bd : Binds K fd ["mapping", "some", "twice"] [] := F.bindsN fun _ _ _ _ _ _ us hl => match us, hl with | [_, _, _], _ => rfl
  have nd := sc_is_independent.nd
  exact ⟨gl, F.kp, bd, fun base => fnd_den (Sb := [3]) F sc_is_independent rfl (io_ok (by decide)) fun cd A out s0 H0 E room hG tk => ⟨_, (dss_cons (ds_setLcX (own := [("bit", 4)]) (by rfl) nd (by rfl) (by rfl) (by rfl) (di_any (de_callI h_bits_of room (by decide) hG tk (by rfl) (da_cons (de_var 1) da_nil))) (blkOk_by (N := ["mapping", "some", "twice", "rows", "bit"]) (sc := defScope st_is_independent) (by decide +kernel)) (fun _ _ _ _ _ => ⟨_, (dg_name 4 nd)⟩) (fun _ _ _ _ _ => ⟨_, dif_nil⟩) (fun _ _ _ _ _ => ⟨_, (de_op op_and s_and (de_ix (by exact room_1 room) (de_ix (by exact room_1 room) (de_var 0) de_int) (de_var 4)) (de_op op_or s_or (de_var 1) (de_var 2)))⟩))
    (dss_one (ds_ret (de_cmp (op_eq2 (by exact room_64 room)) s_eq2 (de_callI h_independent_count room (by decide) hG tk (by rfl) (da_cons (de_var 3) da_nil)) (de_cb c_len s_len (by rfl) b.len bb_len (da_consN (de_var 3) da_nil))))))⟩⟩
theorem sc_once_of : FnScope ["mapping", "twice"] ["mapping", "twice"] (defScope st_once_of) := ⟨rfl, rfl, rfl, by decide +kernel, rfl, by decide +kernel, by decide +kernel⟩
theorem i_once_of {f : Addr} {fd : FuncData} (b : Bf mg)
  (hS : sysB K = true)
  (gl : mg "once_of" = some (.ref f))
  (F : FunD K "once_of" "once_of" (defArgs st_once_of) (defBody st_once_of) (defScope st_once_of) [] [] f fd)
  {f_mask_of : Addr} {fd_mask_of : FuncData} (h_mask_of : FnI P w K mg "mask_of" 1 ["some"] [.ln] d_mask_of f_mask_of fd_mask_of)
  {f_changed_of : Addr} {fd_changed_of : FuncData} (h_changed_of : FnI P w K mg "changed_of" 1 ["mapping"] [.fz] d_changed_of f_changed_of fd_changed_of) : FnI P w K mg "once_of" 2 ["mapping", "twice"] [.fz, .ln] d_once_of f fd := by
  have bd : Binds K fd ["mapping", "twice"] [] := F.bindsN fun _ _ _ _ _ _ us hl => match us, hl with | [_, _], _ => rfl
  have nd := sc_once_of.nd
  exact ⟨gl, F.kp, bd, fun base => fnd_den (Sb := []) F sc_once_of rfl (io_ok (by decide)) fun cd A out s0 H0 E room hG tk => ⟨_, (dss_one (ds_ret (de_op op_and s_and (de_callI h_mask_of room (by decide) hG tk (by rfl) (da_cons (de_callI h_changed_of room (by decide) hG tk (by rfl) (da_cons (de_var 0) da_nil)) da_nil)) (de_un un_inv s_inv (de_var 1)))))⟩⟩
theorem sc_best_of_move : FnScope ["mapping", "rings", "held", "sequence", "ring", "bit"] ["mapping"] (defScope st_best_of_move) := ⟨rfl, rfl, rfl, by decide +kernel, rfl, by decide +kernel, by decide +kernel⟩
theorem i_best_of_move {f : Addr} {fd : FuncData} (b : Bf mg)
  (hS : sysB K = true)
  (gl : mg "best_of_move" = some (.ref f))
  (F : FunD K "best_of_move" "best_of_move" (defArgs st_best_of_move) (defBody st_best_of_move) (defScope st_best_of_move) [] [] f fd)
  {f_rings_of : Addr} {fd_rings_of : FuncData} (h_rings_of : FnI P w K mg "rings_of" 1 ["mapping"] [.ln] d_rings_of f_rings_of fd_rings_of)
  {f_mask_of : Addr} {fd_mask_of : FuncData} (h_mask_of : FnI P w K mg "mask_of" 1 ["some"] [.ln] d_mask_of f_mask_of fd_mask_of)
  {f_changed_of : Addr} {fd_changed_of : FuncData} (h_changed_of : FnI P w K mg "changed_of" 1 ["mapping"] [.fz] d_changed_of f_changed_of fd_changed_of) : FnI P w K mg "best_of_move" 2 ["mapping"] [.fz] d_best_of_move f fd := by
  have bd : Binds K fd ["mapping"] [] := F.bindsN fun _ _ _ _ _ _ us hl => match us, hl with | [_], _ => rfl
  have nd := sc_best_of_move.nd
  exact ⟨gl, F.kp, bd, fun base => fnd_den (Sb := [1, 2, 3, 4]) F sc_best_of_move rfl (io_ok (by decide)) fun cd A out s0 H0 E room hG tk => ⟨_, (dss_cons (ds_set 1 (de_callI h_rings_of room (by decide) hG tk (by rfl) (da_cons (de_var 0) da_nil)) nd)
    (dss_cons (ds_set 2 (de_callI h_mask_of room (by decide) hG tk (by rfl) (da_cons (de_flat (by rfl) nd (di_any (de_var 1)) (blkOk_by (N := ["mapping", "rings", "held", "sequence", "ring", "bit"]) (sc := defScope st_best_of_move) (by decide +kernel)) (by decide) (fun _ _ _ _ _ => (dg_name 4 nd)) (fun _ _ _ _ _ => (dg_name 5 nd)) (fun _ _ _ _ _ => (de_var (W := W0) 4).1) (fun _ _ _ _ _ => (de_var (W := W0) 5).1)) da_nil)) nd)
    (dss_cons (ds_setLcX (own := [("bit", 5)]) (by rfl) nd (by rfl) (by rfl) (by rfl) (di_any (de_callI h_changed_of room (by decide) hG tk (by rfl) (da_cons (de_var 0) da_nil))) (blkOk_by (N := ["mapping", "rings", "held", "sequence", "ring", "bit"]) (sc := defScope st_best_of_move) (by decide +kernel)) (fun _ _ _ _ _ => ⟨_, (dg_name 5 nd)⟩) (fun _ _ _ _ _ => ⟨_, (dif_one (dt_cmp (op_eq2 (by exact room_64 room)) s_eq2 (de_op op_and s_and (de_op op_shr s_shr (de_var 2) (de_var 5)) de_int) de_int))⟩) (fun _ _ _ _ _ => ⟨_, (de_var 5)⟩))
    (dss_cons (ds_lend 1 (ds_for (passes_of (by rfl)) (by rfl) (di_ln 1) (dg_name 4 nd) (dss_one (ds_expr (de_bm 3 PySem.F.plainAttrs_list PySem.F.slot_list_extend PySem.F.type_list_extend mt_extX ty_lst s_extend (da_cons (de_pk (de_var 4) dp_none (dp_some de_int) (dp_some (de_un un_neg s_neg de_int))) da_nil))))))
    (dss_one (ds_ret (de_tup (da_cons (de_callI h_mask_of room (by decide) hG tk (by rfl) (da_cons (de_lend 1 (de_lcX (own := [("ring", 4)]) (by rfl) nd (di_ln 1) (blkOk_by (N := ["mapping", "rings", "held", "sequence", "ring", "bit"]) (sc := defScope st_best_of_move) (by decide +kernel)) (fun _ _ _ _ _ => ⟨_, (dg_name 4 nd)⟩) (fun _ _ _ _ _ => ⟨_, dif_nil⟩) (fun _ _ _ _ _ => ⟨_, (de_ix (by exact room_1 room) (de_var 4) de_int)⟩))) da_nil)) (da_cons (de_var 3) da_nil)))))))))⟩⟩
theorem sc__law_some_stage : FnScope ["source", "size", "at", "way", "sieve"] ["source", "size"] (defScope st__law_some_stage) := ⟨rfl, rfl, rfl, by decide +kernel, rfl, by decide +kernel, by decide +kernel⟩
theorem i__law_some_stage {f : Addr} {fd : FuncData} (b : Bf mg)
  (hS : sysB K = true)
  (gl : mg "_law_some_stage" = some (.ref f))
  (F : FunD K "_law_some_stage" "_law_some_stage" (defArgs st__law_some_stage) (defBody st__law_some_stage) (defScope st__law_some_stage) [] [] f fd)
  {f__law_draw : Addr} {fd__law_draw : FuncData} (h__law_draw : FnI P w K mg "_law_draw" 1 ["source", "count"] [.io, .ln] d__law_draw f__law_draw fd__law_draw) : FnI P w K mg "_law_some_stage" 2 ["source", "size"] [.io, .ln] d__law_some_stage f fd := by
  have bd : Binds K fd ["source", "size"] [] := F.bindsN fun _ _ _ _ _ _ us hl => match us, hl with | [_, _], _ => rfl
  have nd := sc__law_some_stage.nd
  exact ⟨gl, F.kp, bd, fun base => fnd_den (Sb := [2, 3, 4, 4]) F sc__law_some_stage rfl (io_ok (by decide)) fun cd A out s0 H0 E room hG tk => ⟨_, (dss_cons (ds_par (by rfl) nd (by rfl) (by rfl) (by decide) (by rfl) (by rfl) (da_cons (de_callI h__law_draw room (by decide) hG tk (by rfl) (da_cons (de_var 0) (da_cons (de_var 1) da_nil))) (da_cons (de_callI h__law_draw room (by decide) hG tk (by rfl) (da_cons (de_var 0) (da_cons de_int da_nil))) da_nil)) (by rfl))
    (dss_cons (ds_if (dt_cmp (op_eq2 (by exact room_64 room)) s_eq2 (de_var 3) de_int) (dss_one (ds_ret (de_tup (da_cons (de_var 2) (da_cons de_int (da_cons (de_callI h__law_draw room (by decide) hG tk (by rfl) (da_cons (de_var 0) (da_cons de_int da_nil))) da_nil)))))) dss_nil)
    (dss_cons (ds_set 4 (de_callI h__law_draw room (by decide) hG tk (by rfl) (da_cons (de_var 0) (da_cons (de_op op_shlW s_shl de_int (de_var 1)) da_nil))) nd)
    (dss_cons (ds_if (dt_cmp op_lt s_lt (de_var 3) de_int) (dss_one (ds_set 4 (de_op op_or s_or (de_op op_shlW s_shl de_int (de_callI h__law_draw room (by decide) hG tk (by rfl) (da_cons (de_var 0) (da_cons (de_var 1) da_nil)))) (de_op op_shlW s_shl de_int (de_callI h__law_draw room (by decide) hG tk (by rfl) (da_cons (de_var 0) (da_cons (de_var 1) da_nil))))) nd)) dss_nil)
    (dss_one (ds_ret (de_tup (da_cons (de_var 2) (da_cons (de_op op_and s_and (de_var 4) (de_un un_inv s_inv (de_op op_shlW s_shl de_int (de_var 2)))) (da_cons (de_ct call_int1 s_int (by rfl) b.int bb_int (da_consN (de_cmp (op_eq2 (by exact room_64 room)) s_eq2 (de_callI h__law_draw room (by decide) hG tk (by rfl) (da_cons (de_var 0) (da_cons de_int da_nil))) de_int) da_nil)) da_nil))))))))))⟩⟩
theorem sc__law_made : FnScope ["size", "path", "rows", "offset", "at", "sieve", "turned", "row", "k"] ["size", "path"] (defScope st__law_made) := ⟨rfl, rfl, rfl, by decide +kernel, rfl, by decide +kernel, by decide +kernel⟩
theorem i__law_made {f : Addr} {fd : FuncData} (b : Bf mg)
  (hS : sysB K = true)
  (gl : mg "_law_made" = some (.ref f))
  (F : FunD K "_law_made" "_law_made" (defArgs st__law_made) (defBody st__law_made) (defScope st__law_made) [] [] f fd)
  {f__law_odd : Addr} {fd__law_odd : FuncData} (h__law_odd : FnI P w K mg "_law_odd" 1 ["spot"] [.ln] d__law_odd f__law_odd fd__law_odd) : FnI P w K mg "_law_made" 2 ["size", "path"] [.ln, .ln] d__law_made f fd := by
  have bd : Binds K fd ["size", "path"] [] := F.bindsN fun _ _ _ _ _ _ us hl => match us, hl with | [_, _], _ => rfl
  have nd := sc__law_made.nd
  exact ⟨gl, F.kp, bd, fun base => fnd_den (Sb := [2, 3, 4, 5, 6, 7, 8, 7, 3]) F sc__law_made rfl (io_ok (by decide)) fun cd A out s0 H0 E room hG tk => ⟨_, (dss_cons (ds_par (by rfl) nd (by rfl) (by rfl) (by decide) (by rfl) (by rfl) (da_cons (de_lcX (own := [("k", 8)]) (by rfl) nd (di_rng1 (by rfl) b.range (da_cons (de_var 0) da_nil)) (blkOk_by (N := ["size", "path", "rows", "offset", "at", "sieve", "turned", "row", "k"]) (sc := defScope st__law_made) (by decide +kernel)) (fun _ _ _ _ _ => ⟨_, (dg_name 8 nd)⟩) (fun _ _ _ _ _ => ⟨_, dif_nil⟩) (fun _ _ _ _ _ => ⟨_, (de_op op_shlW s_shl de_int (de_var 8))⟩)) (da_cons de_int da_nil)) (by rfl))
    (dss_cons (ds_lend 1 (ds_for (passes_of (by rfl)) (by rfl) (di_ln 1) (dg_tup (by rfl) (dgn_cons 4 nd (dgn_cons 5 nd (dgn_cons 6 nd dgn_nil)))) (dss_cons (ds_set 7 (de_ix (by exact room_1 room) (de_var 2) (de_var 4)) nd)
    (dss_cons (ds_for (passes_of (by rfl)) (by rfl) (di_rng1 (by rfl) b.range (da_cons (de_var 0) da_nil)) (dg_name 8 nd) (dss_one (ds_if (dt_cmp (op_eq2 (by exact room_64 room)) s_eq2 (de_op op_and s_and (de_op op_shr s_shr (de_var 5) (de_var 8)) de_int) de_int) (dss_one (ds_set 7 (de_op op_xor s_xor (de_var 7) (de_ix (by exact room_1 room) (de_var 2) (de_var 8))) nd)) dss_nil)))
    (dss_cons (ds_setI 2 (by exact room_1 room) (de_var 4) (de_var 7))
    (dss_one (ds_set 3 (de_op op_xor s_xor (de_var 3) (de_op op_shlW s_shl (de_op op_xor s_xor (de_callI h__law_odd room (by decide) hG tk (by rfl) (da_cons (de_op op_and s_and (de_var 5) (de_var 3)) da_nil)) (de_var 6)) (de_var 4))) nd)))))))
    (dss_one (ds_ret (de_tup (da_cons (de_var 2) (da_cons (de_var 3) da_nil)))))))⟩⟩
theorem sc__law_mixed : FnScope ["source", "some", "left", "found"] ["source", "some"] (defScope st__law_mixed) := ⟨rfl, rfl, rfl, by decide +kernel, rfl, by decide +kernel, by decide +kernel⟩
theorem i__law_mixed {f : Addr} {fd : FuncData} (b : Bf mg)
  (hS : sysB K = true)
  (gl : mg "_law_mixed" = some (.ref f))
  (F : FunD K "_law_mixed" "_law_mixed" (defArgs st__law_mixed) (defBody st__law_mixed) (defScope st__law_mixed) [] [] f fd)
  {f__law_draw : Addr} {fd__law_draw : FuncData} (h__law_draw : FnI P w K mg "_law_draw" 1 ["source", "count"] [.io, .ln] d__law_draw f__law_draw fd__law_draw) : FnI P w K mg "_law_mixed" 2 ["source", "some"] [.io, .ln] d__law_mixed f fd := by
  have bd : Binds K fd ["source", "some"] [] := F.bindsN fun _ _ _ _ _ _ us hl => match us, hl with | [_, _], _ => rfl
  have nd := sc__law_mixed.nd
  exact ⟨gl, F.kp, bd, fun base => fnd_den (Sb := [2, 3]) F sc__law_mixed rfl (io_ok (by decide)) fun cd A out s0 H0 E room hG tk => ⟨_, (dss_cons (ds_par (by rfl) nd (by rfl) (by rfl) (by decide) (by rfl) (by rfl) (da_cons (de_ct (c_list (by rfl)) s_list (by rfl) b.list bb_list (da_consN (de_var 1) da_nil)) (da_cons (de_lst da_nil) da_nil)) (by rfl))
    (dss_cons (ds_while fuel (passes_of (by rfl)) (dt_cmp (op_ne2 (by exact room_64 room)) s_ne2 (de_var 2) (de_lst da_nil)) (dss_one (ds_expr (de_bm 3 PySem.F.plainAttrs_list PySem.F.slot_list_append PySem.F.type_list_append mt_append ty_lst s_append (da_cons (de_bm 2 PySem.F.plainAttrs_list PySem.F.slot_list_pop PySem.F.type_list_pop mt_popAt ty_lst s_pop1 (da_cons (de_callI h__law_draw room (by decide) hG tk (by rfl) (da_cons (de_var 0) (da_cons (de_cb c_len s_len (by rfl) b.len bb_len (da_consN (de_var 2) da_nil)) da_nil))) da_nil)) da_nil)))))
    (dss_one (ds_ret (de_var 3)))))⟩⟩
theorem sc_need_place : FnScope ["bits", "value"] ["bits", "value"] (defScope st_need_place) := ⟨rfl, rfl, rfl, by decide +kernel, rfl, by decide +kernel, by decide +kernel⟩
theorem i_need_place {f : Addr} {fd : FuncData} (b : Bf mg)
  (hS : sysB K = true)
  (gl : mg "need_place" = some (.ref f))
  (F : FunD K "need_place" "need_place" (defArgs st_need_place) (defBody st_need_place) (defScope st_need_place) [] [] f fd)
  {f_is_place : Addr} {fd_is_place : FuncData} (h_is_place : FnI P w K mg "is_place" 2 ["bits", "value"] [.ln, .ln] d_is_place f_is_place fd_is_place)
  (xc_InvalidPlace : ExF K mg "InvalidPlace") : FnI P w K mg "need_place" 3 ["bits", "value"] [.ln, .ln] d_need_place f fd := by
  have bd : Binds K fd ["bits", "value"] [] := F.bindsN fun _ _ _ _ _ _ us hl => match us, hl with | [_, _], _ => rfl
  have nd := sc_need_place.nd
  exact ⟨gl, F.kp, bd, fun base => fnd_den (Sb := []) F sc_need_place rfl (io_ok (by decide)) fun cd A out s0 H0 E room hG tk => ⟨_, (dss_one (ds_if (dt_not (dt_truth (de_callI h_is_place room (by decide) hG tk (by rfl) (da_cons (de_var 0) (da_cons (de_var 1) da_nil))))) (dss_one (ds_raise xc_InvalidPlace (by rfl) tk (by rfl))) dss_nil))⟩⟩
theorem sc_mapping_fault : FnScope ["value", "rows", "offset", "leads", "index", "row", "left"] ["value"] (defScope st_mapping_fault) := ⟨rfl, rfl, rfl, by decide +kernel, rfl, by decide +kernel, by decide +kernel⟩
theorem i_mapping_fault {f : Addr} {fd : FuncData} (b : Bf mg)
  (hS : sysB K = true)
  (gl : mg "mapping_fault" = some (.ref f))
  (F : FunD K "mapping_fault" "mapping_fault" (defArgs st_mapping_fault) (defBody st_mapping_fault) (defScope st_mapping_fault) [] [] f fd)
  (k_MOST_BITS : ∃ t, mg "MOST_BITS" = some (.int 60 t))
  {f_is_place : Addr} {fd_is_place : FuncData} (h_is_place : FnI P w K mg "is_place" 2 ["bits", "value"] [.ln, .ln] d_is_place f_is_place fd_is_place)
  {f_reduced : Addr} {fd_reduced : FuncData} (h_reduced : FnI P w K mg "reduced" 1 ["leads", "mask", "picks"] [.ln, .fz, .fz] d_reduced f_reduced fd_reduced) : FnI P w K mg "mapping_fault" 3 ["value"] [.fz] d_mapping_fault f fd := by
  have bd : Binds K fd ["value"] [] := F.bindsN fun _ _ _ _ _ _ us hl => match us, hl with | [_], _ => rfl
  have nd := sc_mapping_fault.nd
  exact ⟨gl, F.kp, bd, fun base => fnd_den (Sb := [1, 2, 3, 4, 5, 6]) F sc_mapping_fault rfl (io_ok (by decide)) fun cd A out s0 H0 E room hG tk => ⟨_, (dss_cons (ds_if (DW.dt (dw_or (dt_not (dt_truth (de_cb call_isi s_isi (by rfl) b.isinstance bb_isinstance (da_consN (de_var 0) (da_consN (de_ty (by rfl) b.tuple bb_tuple) da_nil))))) (dw_or1 (dt_cmp (op_ne2 (by exact room_64 room)) s_ne2 (de_cb c_len s_len (by rfl) b.len bb_len (da_consN (de_var 0) da_nil)) de_int)))) (dss_one (ds_ret (de_tup (da_cons de_non da_nil)))) dss_nil)
    (dss_cons (ds_asg (dg_tup (by rfl) (dgn_cons 1 nd (dgn_cons 2 nd dgn_nil))) (de_var 0))
    (dss_cons (ds_if (DW.dt (dw_or (dt_not (dt_truth (de_cb call_isi s_isi (by rfl) b.isinstance bb_isinstance (da_consN (de_var 1) (da_consN (de_ty (by rfl) b.list bb_list) da_nil))))) (dw_or1 (dt_not (dt_chain op_le op_le s_le s_le de_int (de_cb c_len s_len (by rfl) b.len bb_len (da_consN (de_var 1) da_nil)) (de_globI (by rfl) k_MOST_BITS)))))) (dss_one (ds_ret (de_tup (da_cons de_non da_nil)))) dss_nil)
    (dss_cons (ds_set 3 de_dnew nd)
    (dss_cons (ds_lend 1 (ds_for (passes_of (by rfl)) (by rfl) (di_enumLn 1 (by rfl) b.enumerate) (dg_tup (by rfl) (dgn_cons 4 nd (dgn_cons 5 nd dgn_nil))) (dss_cons (ds_if (dt_not (dt_truth (de_callI h_is_place room (by decide) hG tk (by rfl) (da_cons (de_cb c_len s_len (by rfl) b.len bb_len (da_consN (de_var 1) da_nil)) (da_cons (de_var 5) da_nil))))) (dss_one (ds_ret (de_tup (da_cons (de_var 4) da_nil)))) dss_nil)
    (dss_cons (ds_set 6 (de_ix (by exact room_1 room) (de_callI h_reduced room (by decide) hG tk (by rfl) (da_cons (de_var 3) (da_cons (de_var 5) (da_cons de_int da_nil)))) de_int) nd)
    (dss_cons (ds_if (dt_cmp (op_eq2 (by exact room_64 room)) s_eq2 (de_var 6) de_int) (dss_one (ds_ret (de_tup (da_cons (de_var 4) da_nil)))) dss_nil)
    (dss_one (ds_setI 3 (by exact room_1 room) (de_op op_sub s_sub (de_bits (de_op op_and s_and (de_var 6) (de_un un_neg s_neg (de_var 6)))) de_int) (de_tup (da_cons (de_var 6) (da_cons de_int da_nil))))))))))
    (dss_one (ds_ret (de_if (dt_truth (de_callI h_is_place room (by decide) hG tk (by rfl) (da_cons (de_cb c_len s_len (by rfl) b.len bb_len (da_consN (de_var 1) da_nil)) (da_cons (de_var 2) da_nil)))) (de_tup da_nil) (de_tup (da_cons (de_cb c_len s_len (by rfl) b.len bb_len (da_consN (de_var 1) da_nil)) da_nil))))))))))⟩⟩
theorem sc_behind : FnScope ["mapping", "other_mapping", "rows", "offset", "row"] ["mapping", "other_mapping"] (defScope st_behind) := ⟨rfl, rfl, rfl, by decide +kernel, rfl, by decide +kernel, by decide +kernel⟩
theorem i_behind {f : Addr} {fd : FuncData} (b : Bf mg)
  (hS : sysB K = true)
  (gl : mg "behind" = some (.ref f))
  (F : FunD K "behind" "behind" (defArgs st_behind) (defBody st_behind) (defScope st_behind) [] [] f fd)
  {f_moved : Addr} {fd_moved : FuncData} (h_moved : FnI P w K mg "moved" 2 ["mapping", "place"] [.fz, .ln] d_moved f_moved fd_moved)
  {f_put_together : Addr} {fd_put_together : FuncData} (h_put_together : FnI P w K mg "put_together" 1 ["masks", "indices"] [.ln, .ln] d_put_together f_put_together fd_put_together)
  {f_bits_of : Addr} {fd_bits_of : FuncData} (h_bits_of : FnI P w K mg "bits_of" 1 ["mask"] [.ln] d_bits_of f_bits_of fd_bits_of) : FnI P w K mg "behind" 3 ["mapping", "other_mapping"] [.fz, .fz] d_behind f fd := by
  have bd : Binds K fd ["mapping", "other_mapping"] [] := F.bindsN fun _ _ _ _ _ _ us hl => match us, hl with | [_, _], _ => rfl
  have nd := sc_behind.nd
  exact ⟨gl, F.kp, bd, fun base => fnd_den (Sb := [2, 3]) F sc_behind rfl (io_ok (by decide)) fun cd A out s0 H0 E room hG tk => ⟨_, (dss_cons (ds_asg (dg_tup (by rfl) (dgn_cons 2 nd (dgn_cons 3 nd dgn_nil))) (de_var 0))
    (dss_one (ds_ret (de_tup (da_cons (de_lcX (own := [("row", 4)]) (by rfl) nd (di_any (de_ix (by exact room_1 room) (de_var 1) de_int)) (blkOk_by (N := ["mapping", "other_mapping", "rows", "offset", "row"]) (sc := defScope st_behind) (by decide +kernel)) (fun _ _ _ _ _ => ⟨_, (dg_name 4 nd)⟩) (fun _ _ _ _ _ => ⟨_, dif_nil⟩) (fun _ _ _ _ _ => ⟨_, (de_callI h_put_together room (by decide) hG takes0 (by rfl) (da_cons (de_var 2) (da_cons (de_callI h_bits_of room (by decide) hG takes0 (by rfl) (da_cons (de_var 4) da_nil)) da_nil)))⟩)) (da_cons (de_callI h_moved room (by decide) hG tk (by rfl) (da_cons (de_var 1) (da_cons (de_var 3) da_nil))) da_nil))))))⟩⟩
theorem sc_fits : FnScope ["bits", "value", "bit", "mask", "flip"] ["bits", "value"] (defScope st_fits) := ⟨rfl, rfl, rfl, by decide +kernel, rfl, by decide +kernel, by decide +kernel⟩
theorem i_fits {f : Addr} {fd : FuncData} (b : Bf mg)
  (hS : sysB K = true)
  (gl : mg "fits" = some (.ref f))
  (F : FunD K "fits" "fits" (defArgs st_fits) (defBody st_fits) (defScope st_fits) [] [] f fd)
  {f_is_integer : Addr} {fd_is_integer : FuncData} (h_is_integer : FnI P w K mg "is_integer" 1 ["value", "low", "high"] [.ln, .fz, .fz] d_is_integer f_is_integer fd_is_integer)
  {f_is_place : Addr} {fd_is_place : FuncData} (h_is_place : FnI P w K mg "is_place" 2 ["bits", "value"] [.ln, .ln] d_is_place f_is_place fd_is_place) : FnI P w K mg "fits" 3 ["bits", "value"] [.ln, .fz] d_fits f fd := by
  have bd : Binds K fd ["bits", "value"] [] := F.bindsN fun _ _ _ _ _ _ us hl => match us, hl with | [_, _], _ => rfl
  have nd := sc_fits.nd
  exact ⟨gl, F.kp, bd, fun base => fnd_den (Sb := [2, 3, 4]) F sc_fits rfl (io_ok (by decide)) fun cd A out s0 H0 E room hG tk => ⟨_, (dss_cons (ds_if (DW.dt (dw_or (dt_not (dt_truth (de_cb call_isi s_isi (by rfl) b.isinstance bb_isinstance (da_consN (de_var 1) (da_consN (de_ty (by rfl) b.tuple bb_tuple) da_nil))))) (dw_or1 (dt_cmp (op_ne2 (by exact room_64 room)) s_ne2 (de_cb c_len s_len (by rfl) b.len bb_len (da_consN (de_var 1) da_nil)) de_int)))) (dss_one (ds_ret de_bl)) dss_nil)
    (dss_cons (ds_asg (dg_tup (by rfl) (dgn_cons 2 nd (dgn_cons 3 nd (dgn_cons 4 nd dgn_nil)))) (de_var 1))
    (dss_cons (ds_if (DW.dt (dw_or (dt_not (dt_truth (de_callI h_is_integer room (by decide) hG tk (by rfl) (da_cons (de_var 2) (da_cons de_int (da_cons (de_op op_sub s_sub (de_var 0) de_int) da_nil)))))) (dw_or (dt_not (dt_truth (de_callI h_is_place room (by decide) hG tk (by rfl) (da_cons (de_var 0) (da_cons (de_var 3) da_nil))))) (dw_or1 (dt_not (dt_truth (de_callI h_is_integer room (by decide) hG tk (by rfl) (da_cons (de_var 4) (da_cons de_int (da_cons de_int da_nil)))))))))) (dss_one (ds_ret de_bl)) dss_nil)
    (dss_one (ds_ret (de_cmp (op_eq2 (by exact room_64 room)) s_eq2 (de_op op_and s_and (de_op op_shr s_shr (de_var 3) (de_var 2)) de_int) de_int))))))⟩⟩
theorem sc_sets_before : FnScope ["mapping", "twice", "once", "found", "waiting", "some", "bit", "more"] ["mapping", "twice"] (defScope st_sets_before) := ⟨rfl, rfl, rfl, by decide +kernel, rfl, by decide +kernel, by decide +kernel⟩
theorem i_sets_before {f : Addr} {fd : FuncData} (b : Bf mg)
  (hS : sysB K = true)
  (gl : mg "sets_before" = some (.ref f))
  (F : FunD K "sets_before" "sets_before" (defArgs st_sets_before) (defBody st_sets_before) (defScope st_sets_before) [] [] f fd)
  {f_bits_of : Addr} {fd_bits_of : FuncData} (h_bits_of : FnI P w K mg "bits_of" 1 ["mask"] [.ln] d_bits_of f_bits_of fd_bits_of)
  {f_once_of : Addr} {fd_once_of : FuncData} (h_once_of : FnI P w K mg "once_of" 2 ["mapping", "twice"] [.fz, .ln] d_once_of f_once_of fd_once_of)
  {f_is_independent : Addr} {fd_is_independent : FuncData} (h_is_independent : FnI P w K mg "is_independent" 2 ["mapping", "some", "twice"] [.ln, .ln, .ln] d_is_independent f_is_independent fd_is_independent) : FnI P w K mg "sets_before" 3 ["mapping", "twice"] [.fz, .ln] d_sets_before f fd := by
  have bd : Binds K fd ["mapping", "twice"] [] := F.bindsN fun _ _ _ _ _ _ us hl => match us, hl with | [_, _], _ => rfl
  have nd := sc_sets_before.nd
  exact ⟨gl, F.kp, bd, fun base => fnd_den (Sb := [2, 3, 4, 5, 6, 7]) F sc_sets_before rfl (io_ok (by decide)) fun cd A out s0 H0 E room hG tk => ⟨_, (dss_cons (ds_set 2 (de_callI h_bits_of room (by decide) hG tk (by rfl) (da_cons (de_callI h_once_of room (by decide) hG tk (by rfl) (da_cons (de_var 0) (da_cons (de_var 1) da_nil))) da_nil)) nd)
    (dss_cons (ds_par (by rfl) nd (by rfl) (by rfl) (by decide) (by rfl) (by rfl) (da_cons (de_disp (.cons de_int de_non .nil)) (da_cons (de_lst (da_cons de_int da_nil)) da_nil)) (by rfl))
    (dss_cons (ds_while fuel (passes_of (by rfl)) (dt_cmp (op_ne2 (by exact room_64 room)) s_ne2 (de_var 4) (de_lst da_nil)) (dss_cons (ds_set 5 (de_bm0 4 PySem.F.plainAttrs_list PySem.F.slot_list_pop PySem.F.type_list_pop mt_pop ty_lst s_pop0) nd)
    (dss_one (ds_lend 2 (ds_for (passes_of (by rfl)) (by rfl) (di_ln 2) (dg_name 6 nd) (dss_cons (ds_set 7 (de_op op_or s_or (de_var 5) (de_op op_shlW s_shl de_int (de_var 6))) nd)
    (dss_one (ds_if (DW.dt (dw_and (dt_cmp (op_notInX (by exact room_65 room)) s_notIn (de_var 7) (de_var 3)) (dw_and1 (dt_truth (de_callI h_is_independent room (by decide) hG tk (by rfl) (da_cons (de_var 0) (da_cons (de_var 7) (da_cons (de_var 1) da_nil)))))))) (dss_cons (ds_setI 3 (by exact room_1 room) (de_var 7) (de_var 5))
    (dss_one (ds_expr (de_bm 4 PySem.F.plainAttrs_list PySem.F.slot_list_append PySem.F.type_list_append mt_append ty_lst s_append (da_cons (de_var 7) da_nil))))) dss_nil))))))))
    (dss_one (ds_ret (de_var 3))))))⟩⟩
theorem sc_cost_of : FnScope ["mapping", "twice"] ["mapping", "twice"] (defScope st_cost_of) := ⟨rfl, rfl, rfl, by decide +kernel, rfl, by decide +kernel, by decide +kernel⟩
theorem i_cost_of {f : Addr} {fd : FuncData} (b : Bf mg)
  (hS : sysB K = true)
  (gl : mg "cost_of" = some (.ref f))
  (F : FunD K "cost_of" "cost_of" (defArgs st_cost_of) (defBody st_cost_of) (defScope st_cost_of) [] [] f fd)
  {f_bits_of : Addr} {fd_bits_of : FuncData} (h_bits_of : FnI P w K mg "bits_of" 1 ["mask"] [.ln] d_bits_of f_bits_of fd_bits_of)
  {f_once_of : Addr} {fd_once_of : FuncData} (h_once_of : FnI P w K mg "once_of" 2 ["mapping", "twice"] [.fz, .ln] d_once_of f_once_of fd_once_of) : FnI P w K mg "cost_of" 3 ["mapping", "twice"] [.fz, .ln] d_cost_of f fd := by
  have bd : Binds K fd ["mapping", "twice"] [] := F.bindsN fun _ _ _ _ _ _ us hl => match us, hl with | [_, _], _ => rfl
  have nd := sc_cost_of.nd
  exact ⟨gl, F.kp, bd, fun base => fnd_den (Sb := []) F sc_cost_of rfl (io_ok (by decide)) fun cd A out s0 H0 E room hG tk => ⟨_, (dss_one (ds_ret (de_op o_add s_add (de_cb c_len s_len (by rfl) b.len bb_len (da_consN (de_callI h_bits_of room (by decide) hG tk (by rfl) (da_cons (de_callI h_once_of room (by decide) hG tk (by rfl) (da_cons (de_var 0) (da_cons (de_var 1) da_nil))) da_nil)) da_nil)) (de_op o_mul s_mul de_int (de_cb c_len s_len (by rfl) b.len bb_len (da_consN (de_callI h_bits_of room (by decide) hG tk (by rfl) (da_cons (de_var 1) da_nil)) da_nil))))))⟩⟩
theorem sc__law_path : FnScope ["source", "size", "many", "turn"] ["source", "size", "many"] (defScope st__law_path) := ⟨rfl, rfl, rfl, by decide +kernel, rfl, by decide +kernel, by decide +kernel⟩
theorem i__law_path {f : Addr} {fd : FuncData} (b : Bf mg)
  (hS : sysB K = true)
  (gl : mg "_law_path" = some (.ref f))
  (F : FunD K "_law_path" "_law_path" (defArgs st__law_path) (defBody st__law_path) (defScope st__law_path) [] [] f fd)
  {f__law_some_stage : Addr} {fd__law_some_stage : FuncData} (h__law_some_stage : FnI P w K mg "_law_some_stage" 2 ["source", "size"] [.io, .ln] d__law_some_stage f__law_some_stage fd__law_some_stage) : FnI P w K mg "_law_path" 3 ["source", "size", "many"] [.io, .ln, .ln] d__law_path f fd := by
  have bd : Binds K fd ["source", "size", "many"] [] := F.bindsN fun _ _ _ _ _ _ us hl => match us, hl with | [_, _, _], _ => rfl
  have nd := sc__law_path.nd
  exact ⟨gl, F.kp, bd, fun base => fnd_den (Sb := []) F sc__law_path rfl (io_ok (by decide)) fun cd A out s0 H0 E room hG tk => ⟨_, (dss_one (ds_ret (de_lcX (own := [("turn", 3)]) (by rfl) nd (di_rng1 (by rfl) b.range (da_cons (de_var 2) da_nil)) (blkOk_by (N := ["source", "size", "many", "turn"]) (sc := defScope st__law_path) (by decide +kernel)) (fun _ _ _ _ _ => ⟨_, (dg_name 3 nd)⟩) (fun _ _ _ _ _ => ⟨_, dif_nil⟩) (fun _ _ _ _ _ => ⟨_, (de_callI h__law_some_stage room (by decide) hG takes0 (by rfl) (da_cons (de_var 0) (da_cons (de_var 1) da_nil)))⟩))))⟩⟩
theorem sc__law_sequence : FnScope ["source", "size", "some", "way"] ["source", "size"] (defScope st__law_sequence) := ⟨rfl, rfl, rfl, by decide +kernel, rfl, by decide +kernel, by decide +kernel⟩
theorem i__law_sequence {f : Addr} {fd : FuncData} (b : Bf mg)
  (hS : sysB K = true)
  (gl : mg "_law_sequence" = some (.ref f))
  (F : FunD K "_law_sequence" "_law_sequence" (defArgs st__law_sequence) (defBody st__law_sequence) (defScope st__law_sequence) [] [] f fd)
  {f__law_draw : Addr} {fd__law_draw : FuncData} (h__law_draw : FnI P w K mg "_law_draw" 1 ["source", "count"] [.io, .ln] d__law_draw f__law_draw fd__law_draw)
  {f__law_mixed : Addr} {fd__law_mixed : FuncData} (h__law_mixed : FnI P w K mg "_law_mixed" 2 ["source", "some"] [.io, .ln] d__law_mixed f__law_mixed fd__law_mixed) : FnI P w K mg "_law_sequence" 3 ["source", "size"] [.io, .ln] d__law_sequence f fd := by
  have bd : Binds K fd ["source", "size"] [] := F.bindsN fun _ _ _ _ _ _ us hl => match us, hl with | [_, _], _ => rfl
  have nd := sc__law_sequence.nd
  exact ⟨gl, F.kp, bd, fun base => fnd_den (Sb := [2, 3]) F sc__law_sequence rfl (io_ok (by decide)) fun cd A out s0 H0 E room hG tk => ⟨_, (dss_cons (ds_set 2 (de_listRg (by rfl) (by rfl) b.list (dr_1 (by rfl) b.range (de_var 1))) nd)
    (dss_cons (ds_set 3 (de_callI h__law_draw room (by decide) hG tk (by rfl) (da_cons (de_var 0) (da_cons de_int da_nil))) nd)
    (dss_cons (ds_if (dt_cmp (op_eq2 (by exact room_64 room)) s_eq2 (de_var 3) de_int) (dss_one (ds_ret (de_var 2))) dss_nil)
    (dss_one (ds_ret (de_if (dt_cmp (op_eq2 (by exact room_64 room)) s_eq2 (de_var 3) de_int) (de_rev (de_var 2)) (de_callI h__law_mixed room (by decide) hG tk (by rfl) (da_cons (de_var 0) (da_cons (de_var 2) da_nil)))))))))⟩⟩
theorem sc_need_mapping : FnScope ["mapping", "fault"] ["mapping"] (defScope st_need_mapping) := ⟨rfl, rfl, rfl, by decide +kernel, rfl, by decide +kernel, by decide +kernel⟩
theorem i_need_mapping {f : Addr} {fd : FuncData} (b : Bf mg)
  (hS : sysB K = true)
  (gl : mg "need_mapping" = some (.ref f))
  (F : FunD K "need_mapping" "need_mapping" (defArgs st_need_mapping) (defBody st_need_mapping) (defScope st_need_mapping) [] [] f fd)
  {f_mapping_fault : Addr} {fd_mapping_fault : FuncData} (h_mapping_fault : FnI P w K mg "mapping_fault" 3 ["value"] [.fz] d_mapping_fault f_mapping_fault fd_mapping_fault) : FnI P w K mg "need_mapping" 4 ["mapping"] [.fz] d_need_mapping f fd := by
  have bd : Binds K fd ["mapping"] [] := F.bindsN fun _ _ _ _ _ _ us hl => match us, hl with | [_], _ => rfl
  have nd := sc_need_mapping.nd
  exact ⟨gl, F.kp, bd, fun base => fnd_den (Sb := [1]) F sc_need_mapping rfl (io_ok (by decide)) fun cd A out s0 H0 E room hG tk => ⟨_, (dss_cons (ds_set 1 (de_callI h_mapping_fault room (by decide) hG tk (by rfl) (da_cons (de_var 0) da_nil)) nd)
    (dss_one (ds_if (dt_cmp (op_ne2 (by exact room_64 room)) s_ne2 (de_var 1) (de_tup da_nil)) (dss_one ds_no) dss_nil)))⟩⟩
theorem sc_run_fault : FnScope ["bits", "value", "index", "stage"] ["bits", "value"] (defScope st_run_fault) := ⟨rfl, rfl, rfl, by decide +kernel, rfl, by decide +kernel, by decide +kernel⟩
theorem i_run_fault {f : Addr} {fd : FuncData} (b : Bf mg)
  (hS : sysB K = true)
  (gl : mg "run_fault" = some (.ref f))
  (F : FunD K "run_fault" "run_fault" (defArgs st_run_fault) (defBody st_run_fault) (defScope st_run_fault) [] [] f fd)
  (k_MOST_STAGES : ∃ t, mg "MOST_STAGES" = some (.int 400 t))
  {f_fits : Addr} {fd_fits : FuncData} (h_fits : FnI P w K mg "fits" 3 ["bits", "value"] [.ln, .fz] d_fits f_fits fd_fits) : FnI P w K mg "run_fault" 4 ["bits", "value"] [.ln, .ln] d_run_fault f fd := by
  have bd : Binds K fd ["bits", "value"] [] := F.bindsN fun _ _ _ _ _ _ us hl => match us, hl with | [_, _], _ => rfl
  have nd := sc_run_fault.nd
  exact ⟨gl, F.kp, bd, fun base => fnd_den (Sb := [2, 3]) F sc_run_fault rfl (io_ok (by decide)) fun cd A out s0 H0 E room hG tk => ⟨_, (dss_cons (ds_if (DW.dt (dw_or (dt_not (dt_truth (de_cb call_isi s_isi (by rfl) b.isinstance bb_isinstance (da_consN (de_var 1) (da_consN (de_ty (by rfl) b.list bb_list) da_nil))))) (dw_or1 (dt_cmp op_gt s_gt (de_cb c_len s_len (by rfl) b.len bb_len (da_consN (de_var 1) da_nil)) (de_globI (by rfl) k_MOST_STAGES))))) (dss_one (ds_ret (de_tup (da_cons de_non da_nil)))) dss_nil)
    (dss_cons (ds_lend 1 (ds_for (passes_of (by rfl)) (by rfl) (di_enumLn 1 (by rfl) b.enumerate) (dg_tup (by rfl) (dgn_cons 2 nd (dgn_cons 3 nd dgn_nil))) (dss_one (ds_if (dt_not (dt_truth (de_callI h_fits room (by decide) hG tk (by rfl) (da_cons (de_var 0) (da_cons (de_var 3) da_nil))))) (dss_one (ds_ret (de_tup (da_cons (de_var 2) da_nil)))) dss_nil))))
    (dss_one (ds_ret (de_tup da_nil)))))⟩⟩
theorem sc_best_with_sequence : FnScope ["mapping", "costs", "cost", "twice", "found", "once"] ["mapping"] (defScope st_best_with_sequence) := ⟨rfl, rfl, rfl, by decide +kernel, rfl, by decide +kernel, by decide +kernel⟩
theorem i_best_with_sequence {f : Addr} {fd : FuncData} (b : Bf mg)
  (hS : sysB K = true)
  (gl : mg "best_with_sequence" = some (.ref f))
  (F : FunD K "best_with_sequence" "best_with_sequence" (defArgs st_best_with_sequence) (defBody st_best_with_sequence) (defScope st_best_with_sequence) [] [] f fd)
  {f_sets_before : Addr} {fd_sets_before : FuncData} (h_sets_before : FnI P w K mg "sets_before" 3 ["mapping", "twice"] [.fz, .ln] d_sets_before f_sets_before fd_sets_before)
  {f_once_of : Addr} {fd_once_of : FuncData} (h_once_of : FnI P w K mg "once_of" 2 ["mapping", "twice"] [.fz, .ln] d_once_of f_once_of fd_once_of)
  {f_cost_of : Addr} {fd_cost_of : FuncData} (h_cost_of : FnI P w K mg "cost_of" 3 ["mapping", "twice"] [.fz, .ln] d_cost_of f_cost_of fd_cost_of)
  {f_sequence_to : Addr} {fd_sequence_to : FuncData} (h_sequence_to : FnI P w K mg "sequence_to" 1 ["found", "some"] [.ln, .ln] d_sequence_to f_sequence_to fd_sequence_to) : FnI P w K mg "best_with_sequence" 4 ["mapping"] [.fz] d_best_with_sequence f fd := by
  have bd : Binds K fd ["mapping"] [] := F.bindsN fun _ _ _ _ _ _ us hl => match us, hl with | [_], _ => rfl
  have nd := sc_best_with_sequence.nd
  exact ⟨gl, F.kp, bd, fun base => fnd_den (Sb := [1, 2, 3, 4, 5]) F sc_best_with_sequence rfl (io_ok (by decide)) fun cd A out s0 H0 E room hG tk => ⟨_, (dss_cons (ds_set 1 (de_cb (cr_sortD (by exact room_66 room)) s_sortD (by rfl) b.sorted bb_sorted (da_consN (de_lcX (own := [("twice", 3)]) (by rfl) nd (di_rng1 (by rfl) b.range (da_cons (de_op op_shlW s_shl de_int (de_cb c_len s_len (by rfl) b.len bb_len (da_consN (de_ix (by exact room_1 room) (de_var 0) de_int) da_nil))) da_nil)) (blkOk_by (N := ["mapping", "costs", "cost", "twice", "found", "once"]) (sc := defScope st_best_with_sequence) (by decide +kernel)) (fun _ _ _ _ _ => ⟨_, (dg_name 3 nd)⟩) (fun _ _ _ _ _ => ⟨_, dif_nil⟩) (fun _ _ _ _ _ => ⟨_, (de_tup (da_cons (de_callI h_cost_of room (by decide) hG takes0 (by rfl) (da_cons (de_var 0) (da_cons (de_var 3) da_nil))) (da_cons (de_var 3) da_nil)))⟩)) da_nil)) nd)
    (dss_cons (ds_lend 1 (ds_for (passes_of (by rfl)) (by rfl) (di_ln 1) (dg_tup (by rfl) (dgn_cons 2 nd (dgn_cons 3 nd dgn_nil))) (dss_cons (ds_set 4 (de_callI h_sets_before room (by decide) hG tk (by rfl) (da_cons (de_var 0) (da_cons (de_var 3) da_nil))) nd)
    (dss_cons (ds_set 5 (de_callI h_once_of room (by decide) hG tk (by rfl) (da_cons (de_var 0) (da_cons (de_var 3) da_nil))) nd)
    (dss_one (ds_if (dt_cmp (op_inX (by exact room_65 room)) s_in (de_var 5) (de_var 4)) (dss_one (ds_ret (de_tup (da_cons (de_var 3) (da_cons (de_callI h_sequence_to room (by decide) hG tk (by rfl) (da_cons (de_var 4) (da_cons (de_var 5) da_nil))) da_nil))))) dss_nil))))))
    (dss_one (ds_ret (de_tup (da_cons de_int (da_cons (de_lst da_nil) da_nil)))))))⟩⟩
theorem sc__law_plan : FnScope ["source", "size", "way", "few", "rows", "offset", "ahead", "k"] ["source", "size"] (defScope st__law_plan) := ⟨rfl, rfl, rfl, by decide +kernel, rfl, by decide +kernel, by decide +kernel⟩
theorem i__law_plan {f : Addr} {fd : FuncData} (b : Bf mg)
  (hS : sysB K = true)
  (gl : mg "_law_plan" = some (.ref f))
  (F : FunD K "_law_plan" "_law_plan" (defArgs st__law_plan) (defBody st__law_plan) (defScope st__law_plan) [] [] f fd)
  {f__law_draw : Addr} {fd__law_draw : FuncData} (h__law_draw : FnI P w K mg "_law_draw" 1 ["source", "count"] [.io, .ln] d__law_draw f__law_draw fd__law_draw)
  {f__law_made : Addr} {fd__law_made : FuncData} (h__law_made : FnI P w K mg "_law_made" 2 ["size", "path"] [.ln, .ln] d__law_made f__law_made fd__law_made)
  {f__law_mixed : Addr} {fd__law_mixed : FuncData} (h__law_mixed : FnI P w K mg "_law_mixed" 2 ["source", "some"] [.io, .ln] d__law_mixed f__law_mixed fd__law_mixed)
  {f__law_sequence : Addr} {fd__law_sequence : FuncData} (h__law_sequence : FnI P w K mg "_law_sequence" 3 ["source", "size"] [.io, .ln] d__law_sequence f__law_sequence fd__law_sequence)
  {f__law_path : Addr} {fd__law_path : FuncData} (h__law_path : FnI P w K mg "_law_path" 3 ["source", "size", "many"] [.io, .ln, .ln] d__law_path f__law_path fd__law_path) : FnI P w K mg "_law_plan" 4 ["source", "size"] [.io, .ln] d__law_plan f fd := by
  have bd : Binds K fd ["source", "size"] [] := F.bindsN fun _ _ _ _ _ _ us hl => match us, hl with | [_, _], _ => rfl
  have nd := sc__law_plan.nd
  exact ⟨gl, F.kp, bd, fun base => fnd_den (Sb := [2, 3, 4, 5, 3, 4, 6, 7, 6]) F sc__law_plan rfl (io_ok (by decide)) fun cd A out s0 H0 E room hG tk => ⟨_, (dss_cons (ds_set 2 (de_callI h__law_draw room (by decide) hG tk (by rfl) (da_cons (de_var 0) (da_cons de_int da_nil))) nd)
    (dss_cons (ds_if (dt_cmp (op_eq2 (by exact room_64 room)) s_eq2 (de_var 2) de_int) (dss_one (ds_ret (de_callI h__law_made room (by decide) hG tk (by rfl) (da_cons (de_var 1) (da_cons (de_callI h__law_path room (by decide) hG tk (by rfl) (da_cons (de_var 0) (da_cons (de_var 1) (da_cons (de_op o_mul s_mul de_int (de_var 1)) da_nil)))) da_nil))))) dss_nil)
    (dss_cons (ds_if (dt_cmp (op_eq2 (by exact room_64 room)) s_eq2 (de_var 2) de_int) (dss_one (ds_ret (de_callI h__law_made room (by decide) hG tk (by rfl) (da_cons (de_var 1) (da_cons (de_callI h__law_path room (by decide) hG tk (by rfl) (da_cons (de_var 0) (da_cons (de_var 1) (da_cons (de_op o_add s_add de_int (de_callI h__law_draw room (by decide) hG tk (by rfl) (da_cons (de_var 0) (da_cons (de_var 1) da_nil)))) da_nil)))) da_nil))))) dss_nil)
    (dss_cons (ds_if (dt_cmp (op_eq2 (by exact room_64 room)) s_eq2 (de_var 2) de_int) (dss_cons (ds_set 3 (de_op o_add s_add de_int (de_callI h__law_draw room (by decide) hG tk (by rfl) (da_cons (de_var 0) (da_cons (de_var 1) da_nil)))) nd)
    (dss_cons (ds_asg (dg_tup (by rfl) (dgn_cons 4 nd (dgn_cons 5 nd dgn_nil))) (de_callI h__law_made room (by decide) hG tk (by rfl) (da_cons (de_var 3) (da_cons (de_callI h__law_path room (by decide) hG tk (by rfl) (da_cons (de_var 0) (da_cons (de_var 3) (da_cons (de_op o_mul s_mul de_int (de_var 3)) da_nil)))) da_nil))))
    (dss_one (ds_ret (de_tup (da_cons (de_op o_add s_add (de_var 4) (de_lcX (own := [("k", 7)]) (by rfl) nd (di_rng2 (by rfl) b.range (da_cons (de_var 3) (da_cons (de_var 1) da_nil))) (blkOk_by (N := ["source", "size", "way", "few", "rows", "offset", "ahead", "k"]) (sc := defScope st__law_plan) (by decide +kernel)) (fun _ _ _ _ _ => ⟨_, (dg_name 7 nd)⟩) (fun _ _ _ _ _ => ⟨_, dif_nil⟩) (fun _ _ _ _ _ => ⟨_, (de_op op_shlW s_shl de_int (de_var 7))⟩))) (da_cons (de_var 5) da_nil))))))) dss_nil)
    (dss_cons (ds_if (dt_cmp (op_eq2 (by exact room_64 room)) s_eq2 (de_var 2) de_int) (dss_cons (ds_set 3 (de_callI h__law_mixed room (by decide) hG tk (by rfl) (da_cons (de_var 0) (da_cons (de_listRg (by rfl) (by rfl) b.list (dr_1 (by rfl) b.range (de_op o_add s_add de_int (de_callI h__law_draw room (by decide) hG tk (by rfl) (da_cons (de_var 0) (da_cons (de_var 1) da_nil)))))) da_nil))) nd)
    (dss_one (ds_ret (de_tup (da_cons (de_lcX (own := [("k", 7)]) (by rfl) nd (di_any (de_op o_add s_add (de_var 3) (de_listRg (by rfl) (by rfl) b.list (dr_2 (by rfl) b.range (de_cb c_len s_len (by rfl) b.len bb_len (da_consN (de_var 3) da_nil)) (de_var 1))))) (blkOk_by (N := ["source", "size", "way", "few", "rows", "offset", "ahead", "k"]) (sc := defScope st__law_plan) (by decide +kernel)) (fun _ _ _ _ _ => ⟨_, (dg_name 7 nd)⟩) (fun _ _ _ _ _ => ⟨_, dif_nil⟩) (fun _ _ _ _ _ => ⟨_, (de_op op_shlW s_shl de_int (de_var 7))⟩)) (da_cons (de_callI h__law_draw room (by decide) hG tk (by rfl) (da_cons (de_var 0) (da_cons (de_op op_shlW s_shl de_int (de_var 1)) da_nil))) da_nil)))))) dss_nil)
    (dss_cons (ds_if (dt_cmp (op_eq2 (by exact room_64 room)) s_eq2 (de_var 2) de_int) (dss_cons (ds_par (by rfl) nd (by rfl) (by rfl) (by decide) (by rfl) (by rfl) (da_cons (de_op o_mul s_mul (de_lst (da_cons de_int da_nil)) (de_var 1)) (da_cons de_int da_nil)) (by rfl))
    (dss_cons (ds_for (passes_of (by rfl)) (by rfl) (di_any (de_callI h__law_sequence room (by decide) hG tk (by rfl) (da_cons (de_var 0) (da_cons (de_var 1) da_nil)))) (dg_name 7 nd) (dss_cons (ds_setI 4 (by exact room_1 room) (de_var 7) (de_op op_or s_or (de_op op_shlW s_shl de_int (de_var 7)) (de_op op_and s_and (de_var 6) (de_callI h__law_draw room (by decide) hG tk (by rfl) (da_cons (de_var 0) (da_cons (de_op op_shlW s_shl de_int (de_var 1)) da_nil))))))
    (dss_one (ds_set 6 (de_op op_or s_or (de_var 6) (de_op op_shlW s_shl de_int (de_var 7))) nd))))
    (dss_one (ds_ret (de_tup (da_cons (de_var 4) (da_cons (de_callI h__law_draw room (by decide) hG tk (by rfl) (da_cons (de_var 0) (da_cons (de_op op_shlW s_shl de_int (de_var 1)) da_nil))) da_nil))))))) dss_nil)
    (dss_cons (ds_if (dt_cmp (op_eq2 (by exact room_64 room)) s_eq2 (de_var 2) de_int) (dss_one (ds_ret (de_tup (da_cons (de_lcX (own := [("k", 7)]) (by rfl) nd (di_rng1 (by rfl) b.range (da_cons (de_var 1) da_nil)) (blkOk_by (N := ["source", "size", "way", "few", "rows", "offset", "ahead", "k"]) (sc := defScope st__law_plan) (by decide +kernel)) (fun _ _ _ _ _ => ⟨_, (dg_name 7 nd)⟩) (fun _ _ _ _ _ => ⟨_, dif_nil⟩) (fun _ _ _ _ _ => ⟨_, (de_op op_shlW s_shl de_int (de_var 7))⟩)) (da_cons (de_op o_mul s_mul (de_callI h__law_draw room (by decide) hG tk (by rfl) (da_cons (de_var 0) (da_cons (de_op op_shlW s_shl de_int (de_var 1)) da_nil))) (de_callI h__law_draw room (by decide) hG tk (by rfl) (da_cons (de_var 0) (da_cons de_int da_nil)))) da_nil))))) dss_nil)
    (dss_one (ds_ret (de_callI h__law_made room (by decide) hG tk (by rfl) (da_cons (de_var 1) (da_cons (de_lcX (own := [("k", 7)]) (by rfl) nd (di_any (de_callI h__law_sequence room (by decide) hG tk (by rfl) (da_cons (de_var 0) (da_cons (de_var 1) da_nil)))) (blkOk_by (N := ["source", "size", "way", "few", "rows", "offset", "ahead", "k"]) (sc := defScope st__law_plan) (by decide +kernel)) (fun _ _ _ _ _ => ⟨_, (dg_name 7 nd)⟩) (fun _ _ _ _ _ => ⟨_, dif_nil⟩) (fun _ _ _ _ _ => ⟨_, (de_tup (da_cons (de_var 7) (da_cons (de_op op_and s_and (de_callI h__law_draw room (by decide) hG takes0 (by rfl) (da_cons (de_var 0) (da_cons (de_op op_shlW s_shl de_int (de_var 1)) da_nil))) (de_un un_inv s_inv (de_op op_shlW s_shl de_int (de_var 7)))) (da_cons de_int da_nil))))⟩)) da_nil))))))))))))⟩⟩
theorem sc_then : FnScope ["mapping", "other_mapping"] ["mapping", "other_mapping"] (defScope st_then) := ⟨rfl, rfl, rfl, by decide +kernel, rfl, by decide +kernel, by decide +kernel⟩
theorem i_then {f : Addr} {fd : FuncData} (b : Bf mg)
  (hS : sysB K = true)
  (gl : mg "then" = some (.ref f))
  (F : FunD K "then" "then" (defArgs st_then) (defBody st_then) (defScope st_then) [] [] f fd)
  {f_need_mapping : Addr} {fd_need_mapping : FuncData} (h_need_mapping : FnI P w K mg "need_mapping" 4 ["mapping"] [.fz] d_need_mapping f_need_mapping fd_need_mapping)
  {f_need_like : Addr} {fd_need_like : FuncData} (h_need_like : FnI P w K mg "need_like" 1 ["bits", "mapping"] [.ln, .ln] d_need_like f_need_like fd_need_like)
  {f_behind : Addr} {fd_behind : FuncData} (h_behind : FnI P w K mg "behind" 3 ["mapping", "other_mapping"] [.fz, .fz] d_behind f_behind fd_behind) : FnI P w K mg "then" 5 ["mapping", "other_mapping"] [.fz, .fz] d_then f fd := by
  have bd : Binds K fd ["mapping", "other_mapping"] [] := F.bindsN fun _ _ _ _ _ _ us hl => match us, hl with | [_, _], _ => rfl
  have nd := sc_then.nd
  exact ⟨gl, F.kp, bd, fun base => fnd_den (Sb := []) F sc_then rfl (io_ok (by decide)) fun cd A out s0 H0 E room hG tk => ⟨_, (dss_cons (ds_expr (de_callI h_need_mapping room (by decide) hG tk (by rfl) (da_cons (de_var 0) da_nil)))
    (dss_cons (ds_expr (de_callI h_need_mapping room (by decide) hG tk (by rfl) (da_cons (de_var 1) da_nil)))
    (dss_cons (ds_expr (de_callI h_need_like room (by decide) hG tk (by rfl) (da_cons (de_cb c_len s_len (by rfl) b.len bb_len (da_consN (de_ix (by exact room_1 room) (de_var 0) de_int) da_nil)) (da_cons (de_var 1) da_nil))))
    (dss_one (ds_ret (de_callI h_behind room (by decide) hG tk (by rfl) (da_cons (de_var 0) (da_cons (de_var 1) da_nil))))))))⟩⟩
theorem sc_need_run : FnScope ["bits", "run", "fault"] ["bits", "run"] (defScope st_need_run) := ⟨rfl, rfl, rfl, by decide +kernel, rfl, by decide +kernel, by decide +kernel⟩
theorem i_need_run {f : Addr} {fd : FuncData} (b : Bf mg)
  (hS : sysB K = true)
  (gl : mg "need_run" = some (.ref f))
  (F : FunD K "need_run" "need_run" (defArgs st_need_run) (defBody st_need_run) (defScope st_need_run) [] [] f fd)
  {f_run_fault : Addr} {fd_run_fault : FuncData} (h_run_fault : FnI P w K mg "run_fault" 4 ["bits", "value"] [.ln, .ln] d_run_fault f_run_fault fd_run_fault) : FnI P w K mg "need_run" 5 ["bits", "run"] [.ln, .ln] d_need_run f fd := by
  have bd : Binds K fd ["bits", "run"] [] := F.bindsN fun _ _ _ _ _ _ us hl => match us, hl with | [_, _], _ => rfl
  have nd := sc_need_run.nd
  exact ⟨gl, F.kp, bd, fun base => fnd_den (Sb := [2]) F sc_need_run rfl (io_ok (by decide)) fun cd A out s0 H0 E room hG tk => ⟨_, (dss_cons (ds_set 2 (de_callI h_run_fault room (by decide) hG tk (by rfl) (da_cons (de_var 0) (da_cons (de_var 1) da_nil))) nd)
    (dss_one (ds_if (dt_cmp (op_ne2 (by exact room_64 room)) s_ne2 (de_var 2) (de_tup da_nil)) (dss_one ds_no) dss_nil)))⟩⟩
theorem sc_best_of : FnScope ["mapping"] ["mapping"] (defScope st_best_of) := ⟨rfl, rfl, rfl, by decide +kernel, rfl, by decide +kernel, by decide +kernel⟩
theorem i_best_of {f : Addr} {fd : FuncData} (b : Bf mg)
  (hS : sysB K = true)
  (gl : mg "best_of" = some (.ref f))
  (F : FunD K "best_of" "best_of" (defArgs st_best_of) (defBody st_best_of) (defScope st_best_of) [] [] f fd)
  {f_is_moving : Addr} {fd_is_moving : FuncData} (h_is_moving : FnI P w K mg "is_moving" 1 ["mapping"] [.ln] d_is_moving f_is_moving fd_is_moving)
  {f_best_of_move : Addr} {fd_best_of_move : FuncData} (h_best_of_move : FnI P w K mg "best_of_move" 2 ["mapping"] [.fz] d_best_of_move f_best_of_move fd_best_of_move)
  {f_best_with_sequence : Addr} {fd_best_with_sequence : FuncData} (h_best_with_sequence : FnI P w K mg "best_with_sequence" 4 ["mapping"] [.fz] d_best_with_sequence f_best_with_sequence fd_best_with_sequence) : FnI P w K mg "best_of" 5 ["mapping"] [.fz] d_best_of f fd := by
  have bd : Binds K fd ["mapping"] [] := F.bindsN fun _ _ _ _ _ _ us hl => match us, hl with | [_], _ => rfl
  have nd := sc_best_of.nd
  exact ⟨gl, F.kp, bd, fun base => fnd_den (Sb := []) F sc_best_of rfl (io_ok (by decide)) fun cd A out s0 H0 E room hG tk => ⟨_, (dss_one (ds_ret (de_if (dt_truth (de_callI h_is_moving room (by decide) hG tk (by rfl) (da_cons (de_var 0) da_nil))) (de_callI h_best_of_move room (by decide) hG tk (by rfl) (da_cons (de_var 0) da_nil)) (de_callI h_best_with_sequence room (by decide) hG tk (by rfl) (da_cons (de_var 0) da_nil)))))⟩⟩
theorem sc_need_searched : FnScope ["mapping"] ["mapping"] (defScope st_need_searched) := ⟨rfl, rfl, rfl, by decide +kernel, rfl, by decide +kernel, by decide +kernel⟩
theorem i_need_searched {f : Addr} {fd : FuncData} (b : Bf mg)
  (hS : sysB K = true)
  (gl : mg "need_searched" = some (.ref f))
  (F : FunD K "need_searched" "need_searched" (defArgs st_need_searched) (defBody st_need_searched) (defScope st_need_searched) [] [] f fd)
  (k_MOST_SEARCHED : ∃ t, mg "MOST_SEARCHED" = some (.int 7 t))
  {f_need_mapping : Addr} {fd_need_mapping : FuncData} (h_need_mapping : FnI P w K mg "need_mapping" 4 ["mapping"] [.fz] d_need_mapping f_need_mapping fd_need_mapping)
  {f_is_moving : Addr} {fd_is_moving : FuncData} (h_is_moving : FnI P w K mg "is_moving" 1 ["mapping"] [.ln] d_is_moving f_is_moving fd_is_moving)
  {f_need_few : Addr} {fd_need_few : FuncData} (h_need_few : FnI P w K mg "need_few" 1 ["bits", "limit"] [.ln, .ln] d_need_few f_need_few fd_need_few) : FnI P w K mg "need_searched" 5 ["mapping"] [.fz] d_need_searched f fd := by
  have bd : Binds K fd ["mapping"] [] := F.bindsN fun _ _ _ _ _ _ us hl => match us, hl with | [_], _ => rfl
  have nd := sc_need_searched.nd
  exact ⟨gl, F.kp, bd, fun base => fnd_den (Sb := []) F sc_need_searched rfl (io_ok (by decide)) fun cd A out s0 H0 E room hG tk => ⟨_, (dss_cons (ds_expr (de_callI h_need_mapping room (by decide) hG tk (by rfl) (da_cons (de_var 0) da_nil)))
    (dss_one (ds_if (dt_not (dt_truth (de_callI h_is_moving room (by decide) hG tk (by rfl) (da_cons (de_var 0) da_nil)))) (dss_one (ds_expr (de_callI h_need_few room (by decide) hG tk (by rfl) (da_cons (de_cb c_len s_len (by rfl) b.len bb_len (da_consN (de_ix (by exact room_1 room) (de_var 0) de_int) da_nil)) (da_cons (de_globI (by rfl) k_MOST_SEARCHED) da_nil))))) dss_nil)))⟩⟩
theorem sc_need_twice : FnScope ["mapping", "mask"] ["mapping", "mask"] (defScope st_need_twice) := ⟨rfl, rfl, rfl, by decide +kernel, rfl, by decide +kernel, by decide +kernel⟩
theorem i_need_twice {f : Addr} {fd : FuncData} (b : Bf mg)
  (hS : sysB K = true)
  (gl : mg "need_twice" = some (.ref f))
  (F : FunD K "need_twice" "need_twice" (defArgs st_need_twice) (defBody st_need_twice) (defScope st_need_twice) [] [] f fd)
  (k_MOST_SEARCHED : ∃ t, mg "MOST_SEARCHED" = some (.int 7 t))
  {f_need_mapping : Addr} {fd_need_mapping : FuncData} (h_need_mapping : FnI P w K mg "need_mapping" 4 ["mapping"] [.fz] d_need_mapping f_need_mapping fd_need_mapping)
  {f_need_place : Addr} {fd_need_place : FuncData} (h_need_place : FnI P w K mg "need_place" 3 ["bits", "value"] [.ln, .ln] d_need_place f_need_place fd_need_place)
  {f_need_few : Addr} {fd_need_few : FuncData} (h_need_few : FnI P w K mg "need_few" 1 ["bits", "limit"] [.ln, .ln] d_need_few f_need_few fd_need_few) : FnI P w K mg "need_twice" 5 ["mapping", "mask"] [.fz, .ln] d_need_twice f fd := by
  have bd : Binds K fd ["mapping", "mask"] [] := F.bindsN fun _ _ _ _ _ _ us hl => match us, hl with | [_, _], _ => rfl
  have nd := sc_need_twice.nd
  exact ⟨gl, F.kp, bd, fun base => fnd_den (Sb := []) F sc_need_twice rfl (io_ok (by decide)) fun cd A out s0 H0 E room hG tk => ⟨_, (dss_cons (ds_expr (de_callI h_need_mapping room (by decide) hG tk (by rfl) (da_cons (de_var 0) da_nil)))
    (dss_cons (ds_expr (de_callI h_need_place room (by decide) hG tk (by rfl) (da_cons (de_cb c_len s_len (by rfl) b.len bb_len (da_consN (de_ix (by exact room_1 room) (de_var 0) de_int) da_nil)) (da_cons (de_var 1) da_nil))))
    (dss_one (ds_expr (de_callI h_need_few room (by decide) hG tk (by rfl) (da_cons (de_cb c_len s_len (by rfl) b.len bb_len (da_consN (de_ix (by exact room_1 room) (de_var 0) de_int) da_nil)) (da_cons (de_globI (by rfl) k_MOST_SEARCHED) da_nil)))))))⟩⟩
theorem sc_need_both : FnScope ["bits", "run"] ["bits", "run"] (defScope st_need_both) := ⟨rfl, rfl, rfl, by decide +kernel, rfl, by decide +kernel, by decide +kernel⟩
theorem i_need_both {f : Addr} {fd : FuncData} (b : Bf mg)
  (hS : sysB K = true)
  (gl : mg "need_both" = some (.ref f))
  (F : FunD K "need_both" "need_both" (defArgs st_need_both) (defBody st_need_both) (defScope st_need_both) [] [] f fd)
  {f_need_bits : Addr} {fd_need_bits : FuncData} (h_need_bits : FnI P w K mg "need_bits" 2 ["bits"] [.ln] d_need_bits f_need_bits fd_need_bits)
  {f_need_run : Addr} {fd_need_run : FuncData} (h_need_run : FnI P w K mg "need_run" 5 ["bits", "run"] [.ln, .ln] d_need_run f_need_run fd_need_run) : FnI P w K mg "need_both" 6 ["bits", "run"] [.ln, .ln] d_need_both_k17 f fd := by
  have bd : Binds K fd ["bits", "run"] [] := F.bindsN fun _ _ _ _ _ _ us hl => match us, hl with | [_, _], _ => rfl
  have nd := sc_need_both.nd
  exact ⟨gl, F.kp, bd, fun base => fnd_den (Sb := []) F sc_need_both rfl (io_ok (by decide)) fun cd A out s0 H0 E room hG tk => ⟨_, (dss_cons (ds_expr (de_callI h_need_bits room (by decide) hG tk (by rfl) (da_cons (de_var 0) da_nil)))
    (dss_one (ds_expr (de_callI h_need_run room (by decide) hG tk (by rfl) (da_cons (de_var 0) (da_cons (de_var 1) da_nil))))))⟩⟩
theorem sc_fewest_of : FnScope ["mapping"] ["mapping"] (defScope st_fewest_of) := ⟨rfl, rfl, rfl, by decide +kernel, rfl, by decide +kernel, by decide +kernel⟩
theorem i_fewest_of {f : Addr} {fd : FuncData} (b : Bf mg)
  (hS : sysB K = true)
  (gl : mg "fewest_of" = some (.ref f))
  (F : FunD K "fewest_of" "fewest_of" (defArgs st_fewest_of) (defBody st_fewest_of) (defScope st_fewest_of) [] [] f fd)
  {f_cost_of : Addr} {fd_cost_of : FuncData} (h_cost_of : FnI P w K mg "cost_of" 3 ["mapping", "twice"] [.fz, .ln] d_cost_of f_cost_of fd_cost_of)
  {f_best_of : Addr} {fd_best_of : FuncData} (h_best_of : FnI P w K mg "best_of" 5 ["mapping"] [.fz] d_best_of f_best_of fd_best_of) : FnI P w K mg "fewest_of" 6 ["mapping"] [.fz] d_fewest_of f fd := by
  have bd : Binds K fd ["mapping"] [] := F.bindsN fun _ _ _ _ _ _ us hl => match us, hl with | [_], _ => rfl
  have nd := sc_fewest_of.nd
  exact ⟨gl, F.kp, bd, fun base => fnd_den (Sb := []) F sc_fewest_of rfl (io_ok (by decide)) fun cd A out s0 H0 E room hG tk => ⟨_, (dss_one (ds_ret (de_callI h_cost_of room (by decide) hG tk (by rfl) (da_cons (de_var 0) (da_cons (de_ix (by exact room_1 room) (de_callI h_best_of room (by decide) hG tk (by rfl) (da_cons (de_var 0) da_nil)) de_int) da_nil)))))⟩⟩
theorem sc_serves : FnScope ["mapping", "mask"] ["mapping", "mask"] (defScope st_serves) := ⟨rfl, rfl, rfl, by decide +kernel, rfl, by decide +kernel, by decide +kernel⟩
theorem i_serves {f : Addr} {fd : FuncData} (b : Bf mg)
  (hS : sysB K = true)
  (gl : mg "serves" = some (.ref f))
  (F : FunD K "serves" "serves" (defArgs st_serves) (defBody st_serves) (defScope st_serves) [] [] f fd)
  {f_need_twice : Addr} {fd_need_twice : FuncData} (h_need_twice : FnI P w K mg "need_twice" 5 ["mapping", "mask"] [.fz, .ln] d_need_twice f_need_twice fd_need_twice)
  {f_once_of : Addr} {fd_once_of : FuncData} (h_once_of : FnI P w K mg "once_of" 2 ["mapping", "twice"] [.fz, .ln] d_once_of f_once_of fd_once_of)
  {f_sets_before : Addr} {fd_sets_before : FuncData} (h_sets_before : FnI P w K mg "sets_before" 3 ["mapping", "twice"] [.fz, .ln] d_sets_before f_sets_before fd_sets_before) : FnI P w K mg "serves" 6 ["mapping", "mask"] [.fz, .ln] d_serves f fd := by
  have bd : Binds K fd ["mapping", "mask"] [] := F.bindsN fun _ _ _ _ _ _ us hl => match us, hl with | [_, _], _ => rfl
  have nd := sc_serves.nd
  exact ⟨gl, F.kp, bd, fun base => fnd_den (Sb := []) F sc_serves rfl (io_ok (by decide)) fun cd A out s0 H0 E room hG tk => ⟨_, (dss_cons (ds_expr (de_callI h_need_twice room (by decide) hG tk (by rfl) (da_cons (de_var 0) (da_cons (de_var 1) da_nil))))
    (dss_one (ds_ret (de_cmp (op_inX (by exact room_65 room)) s_in (de_callI h_once_of room (by decide) hG tk (by rfl) (da_cons (de_var 0) (da_cons (de_var 1) da_nil))) (de_callI h_sets_before room (by decide) hG tk (by rfl) (da_cons (de_var 0) (da_cons (de_var 1) da_nil)))))))⟩⟩
theorem sc_serving_sequence : FnScope ["mapping", "mask", "found", "once"] ["mapping", "mask"] (defScope st_serving_sequence) := ⟨rfl, rfl, rfl, by decide +kernel, rfl, by decide +kernel, by decide +kernel⟩
theorem i_serving_sequence {f : Addr} {fd : FuncData} (b : Bf mg)
  (hS : sysB K = true)
  (gl : mg "serving_sequence" = some (.ref f))
  (F : FunD K "serving_sequence" "serving_sequence" (defArgs st_serving_sequence) (defBody st_serving_sequence) (defScope st_serving_sequence) [] [] f fd)
  {f_need_twice : Addr} {fd_need_twice : FuncData} (h_need_twice : FnI P w K mg "need_twice" 5 ["mapping", "mask"] [.fz, .ln] d_need_twice f_need_twice fd_need_twice)
  {f_sets_before : Addr} {fd_sets_before : FuncData} (h_sets_before : FnI P w K mg "sets_before" 3 ["mapping", "twice"] [.fz, .ln] d_sets_before f_sets_before fd_sets_before)
  {f_once_of : Addr} {fd_once_of : FuncData} (h_once_of : FnI P w K mg "once_of" 2 ["mapping", "twice"] [.fz, .ln] d_once_of f_once_of fd_once_of)
  {f_sequence_to : Addr} {fd_sequence_to : FuncData} (h_sequence_to : FnI P w K mg "sequence_to" 1 ["found", "some"] [.ln, .ln] d_sequence_to f_sequence_to fd_sequence_to) : FnI P w K mg "serving_sequence" 6 ["mapping", "mask"] [.fz, .ln] d_serving_sequence f fd := by
  have bd : Binds K fd ["mapping", "mask"] [] := F.bindsN fun _ _ _ _ _ _ us hl => match us, hl with | [_, _], _ => rfl
  have nd := sc_serving_sequence.nd
  exact ⟨gl, F.kp, bd, fun base => fnd_den (Sb := [2, 3]) F sc_serving_sequence rfl (io_ok (by decide)) fun cd A out s0 H0 E room hG tk => ⟨_, (dss_cons (ds_expr (de_callI h_need_twice room (by decide) hG tk (by rfl) (da_cons (de_var 0) (da_cons (de_var 1) da_nil))))
    (dss_cons (ds_par (by rfl) nd (by rfl) (by rfl) (by decide) (by rfl) (by rfl) (da_cons (de_callI h_sets_before room (by decide) hG tk (by rfl) (da_cons (de_var 0) (da_cons (de_var 1) da_nil))) (da_cons (de_callI h_once_of room (by decide) hG tk (by rfl) (da_cons (de_var 0) (da_cons (de_var 1) da_nil))) da_nil)) (by rfl))
    (dss_one (ds_ret (de_if (dt_cmp (op_inX (by exact room_65 room)) s_in (de_var 3) (de_var 2)) (de_callI h_sequence_to room (by decide) hG tk (by rfl) (da_cons (de_var 2) (da_cons (de_var 3) da_nil))) de_non)))))⟩⟩
theorem sc_barring_sets : FnScope ["mapping", "mask", "found"] ["mapping", "mask"] (defScope st_barring_sets) := ⟨rfl, rfl, rfl, by decide +kernel, rfl, by decide +kernel, by decide +kernel⟩
theorem i_barring_sets {f : Addr} {fd : FuncData} (b : Bf mg)
  (hS : sysB K = true)
  (gl : mg "barring_sets" = some (.ref f))
  (F : FunD K "barring_sets" "barring_sets" (defArgs st_barring_sets) (defBody st_barring_sets) (defScope st_barring_sets) [] [] f fd)
  {f_need_twice : Addr} {fd_need_twice : FuncData} (h_need_twice : FnI P w K mg "need_twice" 5 ["mapping", "mask"] [.fz, .ln] d_need_twice f_need_twice fd_need_twice)
  {f_sets_before : Addr} {fd_sets_before : FuncData} (h_sets_before : FnI P w K mg "sets_before" 3 ["mapping", "twice"] [.fz, .ln] d_sets_before f_sets_before fd_sets_before)
  {f_once_of : Addr} {fd_once_of : FuncData} (h_once_of : FnI P w K mg "once_of" 2 ["mapping", "twice"] [.fz, .ln] d_once_of f_once_of fd_once_of) : FnI P w K mg "barring_sets" 6 ["mapping", "mask"] [.fz, .ln] d_barring_sets f fd := by
  have bd : Binds K fd ["mapping", "mask"] [] := F.bindsN fun _ _ _ _ _ _ us hl => match us, hl with | [_, _], _ => rfl
  have nd := sc_barring_sets.nd
  exact ⟨gl, F.kp, bd, fun base => fnd_den (Sb := [2]) F sc_barring_sets rfl (io_ok (by decide)) fun cd A out s0 H0 E room hG tk => ⟨_, (dss_cons (ds_expr (de_callI h_need_twice room (by decide) hG tk (by rfl) (da_cons (de_var 0) (da_cons (de_var 1) da_nil))))
    (dss_cons (ds_set 2 (de_callI h_sets_before room (by decide) hG tk (by rfl) (da_cons (de_var 0) (da_cons (de_var 1) da_nil))) nd)
    (dss_one (ds_ret (de_if (dt_cmp (op_notInX (by exact room_65 room)) s_notIn (de_callI h_once_of room (by decide) hG tk (by rfl) (da_cons (de_var 0) (da_cons (de_var 1) da_nil))) (de_var 2)) (de_cb (c_sorted (by rfl)) s_sorted (by rfl) b.sorted bb_sorted (da_consN (de_var 2) da_nil)) de_non)))))⟩⟩
theorem sc_shows_serving : FnScope ["mapping", "mask", "value", "many"] ["mapping", "mask", "value"] (defScope st_shows_serving) := ⟨rfl, rfl, rfl, by decide +kernel, rfl, by decide +kernel, by decide +kernel⟩
theorem i_shows_serving {f : Addr} {fd : FuncData} (b : Bf mg)
  (hS : sysB K = true)
  (gl : mg "shows_serving" = some (.ref f))
  (F : FunD K "shows_serving" "shows_serving" (defArgs st_shows_serving) (defBody st_shows_serving) (defScope st_shows_serving) [] [] f fd)
  {f_need_twice : Addr} {fd_need_twice : FuncData} (h_need_twice : FnI P w K mg "need_twice" 5 ["mapping", "mask"] [.fz, .ln] d_need_twice f_need_twice fd_need_twice)
  {f_are_bits : Addr} {fd_are_bits : FuncData} (h_are_bits : FnI P w K mg "are_bits" 2 ["bits", "value"] [.ln, .ln] d_are_bits f_are_bits fd_are_bits)
  {f_mask_of : Addr} {fd_mask_of : FuncData} (h_mask_of : FnI P w K mg "mask_of" 1 ["some"] [.ln] d_mask_of f_mask_of fd_mask_of)
  {f_once_of : Addr} {fd_once_of : FuncData} (h_once_of : FnI P w K mg "once_of" 2 ["mapping", "twice"] [.fz, .ln] d_once_of f_once_of fd_once_of)
  {f_is_independent : Addr} {fd_is_independent : FuncData} (h_is_independent : FnI P w K mg "is_independent" 2 ["mapping", "some", "twice"] [.ln, .ln, .ln] d_is_independent f_is_independent fd_is_independent) : FnI P w K mg "shows_serving" 6 ["mapping", "mask", "value"] [.fz, .ln, .ln] d_shows_serving f fd := by
  have bd : Binds K fd ["mapping", "mask", "value"] [] := F.bindsN fun _ _ _ _ _ _ us hl => match us, hl with | [_, _, _], _ => rfl
  have nd := sc_shows_serving.nd
  exact ⟨gl, F.kp, bd, fun base => fnd_den (Sb := []) F sc_shows_serving rfl (io_ok (by decide)) fun cd A out s0 H0 E room hG tk => ⟨_, (dss_cons (ds_expr (de_callI h_need_twice room (by decide) hG tk (by rfl) (da_cons (de_var 0) (da_cons (de_var 1) da_nil))))
    (dss_cons (ds_if (DW.dt (dw_or (dt_not (dt_truth (de_callI h_are_bits room (by decide) hG tk (by rfl) (da_cons (de_cb c_len s_len (by rfl) b.len bb_len (da_consN (de_ix (by exact room_1 room) (de_var 0) de_int) da_nil)) (da_cons (de_var 2) da_nil))))) (dw_or1 (dt_cmp (op_ne2 (by exact room_64 room)) s_ne2 (de_callI h_mask_of room (by decide) hG tk (by rfl) (da_cons (de_var 2) da_nil)) (de_callI h_once_of room (by decide) hG tk (by rfl) (da_cons (de_var 0) (da_cons (de_var 1) da_nil))))))) (dss_one (ds_ret de_bl)) dss_nil)
    (dss_one (ds_ret (de_cb (cr_all (by rfl)) s_all (by rfl) b.all bb_all (da_consN (de_lcX (own := [("many", 3)]) (by rfl) nd (di_rng1 (by rfl) b.range (da_cons (de_cb c_len s_len (by rfl) b.len bb_len (da_consN (de_var 2) da_nil)) da_nil)) (blkOk_by (N := ["mapping", "mask", "value", "many"]) (sc := defScope st_shows_serving) (by decide +kernel)) (fun _ _ _ _ _ => ⟨_, (dg_name 3 nd)⟩) (fun _ _ _ _ _ => ⟨_, dif_nil⟩) (fun _ _ _ _ _ => ⟨_, (de_callI h_is_independent room (by decide) hG takes0 (by rfl) (da_cons (de_var 0) (da_cons (de_callI h_mask_of room (by decide) hG takes0 (by rfl) (da_cons (de_sl (de_var 2) dp_none (dp_some (de_op o_add s_add (de_var 3) de_int))) da_nil)) (da_cons (de_var 1) da_nil))))⟩)) da_nil))))))⟩⟩
theorem sc_shows_barring : FnScope ["mapping", "mask", "value", "once", "some", "bit"] ["mapping", "mask", "value"] (defScope st_shows_barring) := ⟨rfl, rfl, rfl, by decide +kernel, rfl, by decide +kernel, by decide +kernel⟩
theorem i_shows_barring {f : Addr} {fd : FuncData} (b : Bf mg)
  (hS : sysB K = true)
  (gl : mg "shows_barring" = some (.ref f))
  (F : FunD K "shows_barring" "shows_barring" (defArgs st_shows_barring) (defBody st_shows_barring) (defScope st_shows_barring) [] [] f fd)
  (k_MOST_SETS : ∃ t, mg "MOST_SETS" = some (.int 128 t))
  {f_need_twice : Addr} {fd_need_twice : FuncData} (h_need_twice : FnI P w K mg "need_twice" 5 ["mapping", "mask"] [.fz, .ln] d_need_twice f_need_twice fd_need_twice)
  {f_once_of : Addr} {fd_once_of : FuncData} (h_once_of : FnI P w K mg "once_of" 2 ["mapping", "twice"] [.fz, .ln] d_once_of f_once_of fd_once_of)
  {f_bits_of : Addr} {fd_bits_of : FuncData} (h_bits_of : FnI P w K mg "bits_of" 1 ["mask"] [.ln] d_bits_of f_bits_of fd_bits_of)
  {f_is_independent : Addr} {fd_is_independent : FuncData} (h_is_independent : FnI P w K mg "is_independent" 2 ["mapping", "some", "twice"] [.ln, .ln, .ln] d_is_independent f_is_independent fd_is_independent)
  {f_is_integer : Addr} {fd_is_integer : FuncData} (h_is_integer : FnI P w K mg "is_integer" 1 ["value", "low", "high"] [.ln, .fz, .fz] d_is_integer f_is_integer fd_is_integer) : FnI P w K mg "shows_barring" 6 ["mapping", "mask", "value"] [.fz, .ln, .ln] d_shows_barring f fd := by
  have bd : Binds K fd ["mapping", "mask", "value"] [] := F.bindsN fun _ _ _ _ _ _ us hl => match us, hl with | [_, _, _], _ => rfl
  have nd := sc_shows_barring.nd
  exact ⟨gl, F.kp, bd, fun base => fnd_den (Sb := [3, 4, 5]) F sc_shows_barring rfl (io_ok (by decide)) fun cd A out s0 H0 E room hG tk => ⟨_, (dss_cons (ds_expr (de_callI h_need_twice room (by decide) hG tk (by rfl) (da_cons (de_var 0) (da_cons (de_var 1) da_nil))))
    (dss_cons (ds_set 3 (de_callI h_once_of room (by decide) hG tk (by rfl) (da_cons (de_var 0) (da_cons (de_var 1) da_nil))) nd)
    (dss_cons (ds_if (DW.dt (dw_or (dt_not (dt_truth (de_cb call_isi s_isi (by rfl) b.isinstance bb_isinstance (da_consN (de_var 2) (da_consN (de_ty (by rfl) b.list bb_list) da_nil))))) (dw_or1 (dt_cmp op_gt s_gt (de_cb c_len s_len (by rfl) b.len bb_len (da_consN (de_var 2) da_nil)) (de_globI (by rfl) k_MOST_SETS))))) (dss_one (ds_ret de_bl)) dss_nil)
    (dss_cons (ds_if (dt_not (dt_truth (de_cb (cr_all (by rfl)) s_all (by rfl) b.all bb_all (da_consN (de_lend 2 (de_lcX (own := [("some", 4)]) (by rfl) nd (di_ln 2) (blkOk_by (N := ["mapping", "mask", "value", "once", "some", "bit"]) (sc := defScope st_shows_barring) (by decide +kernel)) (fun _ _ _ _ _ => ⟨_, (dg_name 4 nd)⟩) (fun _ _ _ _ _ => ⟨_, dif_nil⟩) (fun _ _ _ _ _ => ⟨_, (de_and (de_callI h_is_integer room (by decide) hG takes0 (by rfl) (da_cons (de_var 4) (da_cons de_int (da_cons (de_var 3) da_nil)))) (de_one (de_cmp (op_eq2 (by exact room_64 room)) s_eq2 (de_op op_and s_and (de_var 4) (de_un un_inv s_inv (de_var 3))) de_int)))⟩))) da_nil)))) (dss_one (ds_ret de_bl)) dss_nil)
    (dss_cons (ds_if (DW.dt (dw_or (dt_cmp (op_inX (by exact room_65 room)) s_in (de_var 3) (de_var 2)) (dw_or1 (dt_cmp (op_notInX (by exact room_65 room)) s_notIn de_int (de_var 2))))) (dss_one (ds_ret de_bl)) dss_nil)
    (dss_cons (ds_lend 2 (ds_for (passes_of (by rfl)) (by rfl) (di_ln 2) (dg_name 4 nd) (dss_one (ds_for (passes_of (by rfl)) (by rfl) (di_any (de_callI h_bits_of room (by decide) hG tk (by rfl) (da_cons (de_op op_and s_and (de_var 3) (de_un un_inv s_inv (de_var 4))) da_nil))) (dg_name 5 nd) (dss_one (ds_if (DW.dt (dw_and (dt_cmp (op_notInX (by exact room_65 room)) s_notIn (de_op op_or s_or (de_var 4) (de_op op_shlW s_shl de_int (de_var 5))) (de_var 2)) (dw_and1 (dt_truth (de_callI h_is_independent room (by decide) hG tk (by rfl) (da_cons (de_var 0) (da_cons (de_op op_or s_or (de_var 4) (de_op op_shlW s_shl de_int (de_var 5))) (da_cons (de_var 1) da_nil)))))))) (dss_one (ds_ret de_bl)) dss_nil))))))
    (dss_one (ds_ret de_bl))))))))⟩⟩
theorem sc_best_twice : FnScope ["mapping"] ["mapping"] (defScope st_best_twice) := ⟨rfl, rfl, rfl, by decide +kernel, rfl, by decide +kernel, by decide +kernel⟩
theorem i_best_twice {f : Addr} {fd : FuncData} (b : Bf mg)
  (hS : sysB K = true)
  (gl : mg "best_twice" = some (.ref f))
  (F : FunD K "best_twice" "best_twice" (defArgs st_best_twice) (defBody st_best_twice) (defScope st_best_twice) [] [] f fd)
  (k_MOST_SEARCHED : ∃ t, mg "MOST_SEARCHED" = some (.int 7 t))
  {f_need_mapping : Addr} {fd_need_mapping : FuncData} (h_need_mapping : FnI P w K mg "need_mapping" 4 ["mapping"] [.fz] d_need_mapping f_need_mapping fd_need_mapping)
  {f_need_few : Addr} {fd_need_few : FuncData} (h_need_few : FnI P w K mg "need_few" 1 ["bits", "limit"] [.ln, .ln] d_need_few f_need_few fd_need_few)
  {f_best_of : Addr} {fd_best_of : FuncData} (h_best_of : FnI P w K mg "best_of" 5 ["mapping"] [.fz] d_best_of f_best_of fd_best_of) : FnI P w K mg "best_twice" 6 ["mapping"] [.fz] d_best_twice f fd := by
  have bd : Binds K fd ["mapping"] [] := F.bindsN fun _ _ _ _ _ _ us hl => match us, hl with | [_], _ => rfl
  have nd := sc_best_twice.nd
  exact ⟨gl, F.kp, bd, fun base => fnd_den (Sb := []) F sc_best_twice rfl (io_ok (by decide)) fun cd A out s0 H0 E room hG tk => ⟨_, (dss_cons (ds_expr (de_callI h_need_mapping room (by decide) hG tk (by rfl) (da_cons (de_var 0) da_nil)))
    (dss_cons (ds_expr (de_callI h_need_few room (by decide) hG tk (by rfl) (da_cons (de_cb c_len s_len (by rfl) b.len bb_len (da_consN (de_ix (by exact room_1 room) (de_var 0) de_int) da_nil)) (da_cons (de_globI (by rfl) k_MOST_SEARCHED) da_nil))))
    (dss_one (ds_ret (de_ix (by exact room_1 room) (de_callI h_best_of room (by decide) hG tk (by rfl) (da_cons (de_var 0) da_nil)) de_int)))))⟩⟩
theorem sc_run_mapping : FnScope ["bits", "run"] ["bits", "run"] (defScope st_run_mapping) := ⟨rfl, rfl, rfl, by decide +kernel, rfl, by decide +kernel, by decide +kernel⟩
theorem i_run_mapping {f : Addr} {fd : FuncData} (b : Bf mg)
  (hS : sysB K = true)
  (gl : mg "run_mapping" = some (.ref f))
  (F : FunD K "run_mapping" "run_mapping" (defArgs st_run_mapping) (defBody st_run_mapping) (defScope st_run_mapping) [] [] f fd)
  {f_need_both : Addr} {fd_need_both : FuncData} (h_need_both : FnI P w K mg "need_both" 6 ["bits", "run"] [.ln, .ln] d_need_both_k17 f_need_both fd_need_both)
  {f_made_by : Addr} {fd_made_by : FuncData} (h_made_by : FnI P w K mg "made_by" 2 ["bits", "run"] [.ln, .ln] d_made_by f_made_by fd_made_by) : FnI P w K mg "run_mapping" 7 ["bits", "run"] [.ln, .ln] d_run_mapping f fd := by
  have bd : Binds K fd ["bits", "run"] [] := F.bindsN fun _ _ _ _ _ _ us hl => match us, hl with | [_, _], _ => rfl
  have nd := sc_run_mapping.nd
  exact ⟨gl, F.kp, bd, fun base => fnd_den (Sb := []) F sc_run_mapping rfl (io_ok (by decide)) fun cd A out s0 H0 E room hG tk => ⟨_, (dss_cons (ds_expr (de_callI h_need_both room (by decide) hG tk (by rfl) (da_cons (de_var 0) (da_cons (de_var 1) da_nil))))
    (dss_one (ds_ret (de_callI h_made_by room (by decide) hG tk (by rfl) (da_cons (de_var 0) (da_cons (de_var 1) da_nil))))))⟩⟩
theorem sc_fewest_stages : FnScope ["mapping"] ["mapping"] (defScope st_fewest_stages) := ⟨rfl, rfl, rfl, by decide +kernel, rfl, by decide +kernel, by decide +kernel⟩
theorem i_fewest_stages {f : Addr} {fd : FuncData} (b : Bf mg)
  (hS : sysB K = true)
  (gl : mg "fewest_stages" = some (.ref f))
  (F : FunD K "fewest_stages" "fewest_stages" (defArgs st_fewest_stages) (defBody st_fewest_stages) (defScope st_fewest_stages) [] [] f fd)
  {f_need_searched : Addr} {fd_need_searched : FuncData} (h_need_searched : FnI P w K mg "need_searched" 5 ["mapping"] [.fz] d_need_searched f_need_searched fd_need_searched)
  {f_fewest_of : Addr} {fd_fewest_of : FuncData} (h_fewest_of : FnI P w K mg "fewest_of" 6 ["mapping"] [.fz] d_fewest_of f_fewest_of fd_fewest_of) : FnI P w K mg "fewest_stages" 7 ["mapping"] [.fz] d_fewest_stages f fd := by
  have bd : Binds K fd ["mapping"] [] := F.bindsN fun _ _ _ _ _ _ us hl => match us, hl with | [_], _ => rfl
  have nd := sc_fewest_stages.nd
  exact ⟨gl, F.kp, bd, fun base => fnd_den (Sb := []) F sc_fewest_stages rfl (io_ok (by decide)) fun cd A out s0 H0 E room hG tk => ⟨_, (dss_cons (ds_expr (de_callI h_need_searched room (by decide) hG tk (by rfl) (da_cons (de_var 0) da_nil)))
    (dss_one (ds_ret (de_callI h_fewest_of room (by decide) hG tk (by rfl) (da_cons (de_var 0) da_nil)))))⟩⟩
theorem sc__law_barred_right : FnScope ["plan", "twice", "sets", "some"] ["plan", "twice"] (defScope st__law_barred_right) := ⟨rfl, rfl, rfl, by decide +kernel, rfl, by decide +kernel, by decide +kernel⟩
theorem i__law_barred_right {f : Addr} {fd : FuncData} (b : Bf mg)
  (hS : sysB K = true)
  (gl : mg "_law_barred_right" = some (.ref f))
  (F : FunD K "_law_barred_right" "_law_barred_right" (defArgs st__law_barred_right) (defBody st__law_barred_right) (defScope st__law_barred_right) [] [] f fd)
  {f_barring_sets : Addr} {fd_barring_sets : FuncData} (h_barring_sets : FnI P w K mg "barring_sets" 6 ["mapping", "mask"] [.fz, .ln] d_barring_sets f_barring_sets fd_barring_sets)
  {f_serves : Addr} {fd_serves : FuncData} (h_serves : FnI P w K mg "serves" 6 ["mapping", "mask"] [.fz, .ln] d_serves f_serves fd_serves)
  {f_shows_barring : Addr} {fd_shows_barring : FuncData} (h_shows_barring : FnI P w K mg "shows_barring" 6 ["mapping", "mask", "value"] [.fz, .ln, .ln] d_shows_barring f_shows_barring fd_shows_barring)
  {f_serving_sequence : Addr} {fd_serving_sequence : FuncData} (h_serving_sequence : FnI P w K mg "serving_sequence" 6 ["mapping", "mask"] [.fz, .ln] d_serving_sequence f_serving_sequence fd_serving_sequence) : FnI P w K mg "_law_barred_right" 7 ["plan", "twice"] [.fz, .ln] d__law_barred_right_k92 f fd := by
  have bd : Binds K fd ["plan", "twice"] [] := F.bindsN fun _ _ _ _ _ _ us hl => match us, hl with | [_, _], _ => rfl
  have nd := sc__law_barred_right.nd
  exact ⟨gl, F.kp, bd, fun base => fnd_den (Sb := [2]) F sc__law_barred_right rfl (io_ok (by decide)) fun cd A out s0 H0 E room hG tk => ⟨_, (dss_cons (ds_set 2 (de_callI h_barring_sets room (by decide) hG tk (by rfl) (da_cons (de_var 0) (da_cons (de_var 1) da_nil))) nd)
    (dss_cons (ds_if (DW.dt (dw_or (dt_cmp op_isN s_isN (de_var 2) de_non) (dw_or (dt_not (dt_truth (de_callI h_shows_barring room (by decide) hG tk (by rfl) (da_cons (de_var 0) (da_cons (de_var 1) (da_cons (de_var 2) da_nil)))))) (dw_or1 (dt_truth (de_callI h_serves room (by decide) hG tk (by rfl) (da_cons (de_var 0) (da_cons (de_var 1) da_nil)))))))) (dss_one (ds_ret de_bl)) dss_nil)
    (dss_cons (ds_if (DW.dt (dw_or (dt_not (dt_truth (de_callI h_shows_barring room (by decide) hG tk (by rfl) (da_cons (de_var 0) (da_cons (de_var 1) (da_cons (de_rev (de_var 2)) da_nil)))))) (dw_or1 (dt_truth (de_callI h_shows_barring room (by decide) hG tk (by rfl) (da_cons (de_var 0) (da_cons (de_var 1) (da_cons (de_lend 2 (de_lcX (own := [("some", 3)]) (by rfl) nd (di_ln 2) (blkOk_by (N := ["plan", "twice", "sets", "some"]) (sc := defScope st__law_barred_right) (by decide +kernel)) (fun _ _ _ _ _ => ⟨_, (dg_name 3 nd)⟩) (fun _ _ _ _ _ => ⟨_, (dif_one (dt_cmp op_gt s_gt (de_var 3) de_int))⟩) (fun _ _ _ _ _ => ⟨_, (de_var 3)⟩))) da_nil)))))))) (dss_one (ds_ret de_bl)) dss_nil)
    (dss_one (ds_ret (de_cmp op_isN s_isN (de_callI h_serving_sequence room (by decide) hG tk (by rfl) (da_cons (de_var 0) (da_cons (de_var 1) da_nil))) de_non))))))⟩⟩
theorem sc__law_right : FnScope ["source", "size", "plan", "unlike", "due", "twice", "best", "more", "one"] ["source"] (defScope st__law_right) := ⟨rfl, rfl, rfl, by decide +kernel, rfl, by decide +kernel, by decide +kernel⟩
theorem i__law_right {f : Addr} {fd : FuncData} (b : Bf mg)
  (hS : sysB K = true)
  (gl : mg "_law_right" = some (.ref f))
  (F : FunD K "_law_right" "_law_right" (defArgs st__law_right) (defBody st__law_right) (defScope st__law_right) [] [] f fd)
  {f__law_plan : Addr} {fd__law_plan : FuncData} (h__law_plan : FnI P w K mg "_law_plan" 4 ["source", "size"] [.io, .ln] d__law_plan f__law_plan fd__law_plan)
  {f_best_twice : Addr} {fd_best_twice : FuncData} (h_best_twice : FnI P w K mg "best_twice" 6 ["mapping"] [.fz] d_best_twice f_best_twice fd_best_twice)
  {f__law_some_stage : Addr} {fd__law_some_stage : FuncData} (h__law_some_stage : FnI P w K mg "_law_some_stage" 2 ["source", "size"] [.io, .ln] d__law_some_stage f__law_some_stage fd__law_some_stage)
  {f_serves : Addr} {fd_serves : FuncData} (h_serves : FnI P w K mg "serves" 6 ["mapping", "mask"] [.fz, .ln] d_serves f_serves fd_serves)
  {f__law_draw : Addr} {fd__law_draw : FuncData} (h__law_draw : FnI P w K mg "_law_draw" 1 ["source", "count"] [.io, .ln] d__law_draw f__law_draw fd__law_draw)
  {f__law_unlike : Addr} {fd__law_unlike : FuncData} (h__law_unlike : FnI P w K mg "_law_unlike" 1 ["plan"] [.fz] d__law_unlike f__law_unlike fd__law_unlike)
  {f_fewest_stages : Addr} {fd_fewest_stages : FuncData} (h_fewest_stages : FnI P w K mg "fewest_stages" 7 ["mapping"] [.fz] d_fewest_stages f_fewest_stages fd_fewest_stages)
  {f_then : Addr} {fd_then : FuncData} (h_then : FnI P w K mg "then" 5 ["mapping", "other_mapping"] [.fz, .fz] d_then f_then fd_then)
  {f_shows_serving : Addr} {fd_shows_serving : FuncData} (h_shows_serving : FnI P w K mg "shows_serving" 6 ["mapping", "mask", "value"] [.fz, .ln, .ln] d_shows_serving f_shows_serving fd_shows_serving)
  {f_barring_sets : Addr} {fd_barring_sets : FuncData} (h_barring_sets : FnI P w K mg "barring_sets" 6 ["mapping", "mask"] [.fz, .ln] d_barring_sets f_barring_sets fd_barring_sets)
  {f_run_mapping : Addr} {fd_run_mapping : FuncData} (h_run_mapping : FnI P w K mg "run_mapping" 7 ["bits", "run"] [.ln, .ln] d_run_mapping f_run_mapping fd_run_mapping)
  {f__law_barred_right : Addr} {fd__law_barred_right : FuncData} (h__law_barred_right : FnI P w K mg "_law_barred_right" 7 ["plan", "twice"] [.fz, .ln] d__law_barred_right_k92 f__law_barred_right fd__law_barred_right)
  {f_serving_sequence : Addr} {fd_serving_sequence : FuncData} (h_serving_sequence : FnI P w K mg "serving_sequence" 6 ["mapping", "mask"] [.fz, .ln] d_serving_sequence f_serving_sequence fd_serving_sequence)
  {f__law_width : Addr} {fd__law_width : FuncData} (h__law_width : FnI P w K mg "_law_width" 1 ["sieve"] [.ln] d__law_width f__law_width fd__law_width) : FnI P w K mg "_law_right" 8 ["source"] [.io] d__law_right_k92 f fd := by
  have bd : Binds K fd ["source"] [] := F.bindsN fun _ _ _ _ _ _ us hl => match us, hl with | [_], _ => rfl
  have nd := sc__law_right.nd
  exact ⟨gl, F.kp, bd, fun base => fnd_den (Sb := [1, 2, 3, 4, 5, 6, 7, 8]) F sc__law_right rfl (io_ok (by decide)) fun cd A out s0 H0 E room hG tk => ⟨_, (dss_cons (ds_set 1 (de_op o_add s_add de_int (de_callI h__law_draw room (by decide) hG tk (by rfl) (da_cons (de_var 0) (da_cons de_int da_nil)))) nd)
    (dss_cons (ds_set 2 (de_callI h__law_plan room (by decide) hG tk (by rfl) (da_cons (de_var 0) (da_cons (de_var 1) da_nil))) nd)
    (dss_cons (ds_par (by rfl) nd (by rfl) (by rfl) (by decide) (by rfl) (by rfl) (da_cons (de_callI h__law_unlike room (by decide) hG tk (by rfl) (da_cons (de_var 2) da_nil)) (da_cons (de_callI h_fewest_stages room (by decide) hG tk (by rfl) (da_cons (de_var 2) da_nil)) da_nil)) (by rfl))
    (dss_cons (ds_for (passes_of (by rfl)) (by rfl) (di_rng1 (by rfl) b.range (da_cons (de_op op_shlW s_shl de_int (de_var 1)) da_nil)) (dg_name 5 nd) (dss_one (ds_if (DW.dt (dw_and (dt_cmp op_lt s_lt (de_op o_add s_add (de_callI h__law_width room (by decide) hG tk (by rfl) (da_cons (de_op op_and s_and (de_var 3) (de_un un_inv s_inv (de_var 5))) da_nil)) (de_op o_mul s_mul de_int (de_callI h__law_width room (by decide) hG tk (by rfl) (da_cons (de_var 5) da_nil)))) (de_var 4)) (dw_and1 (dt_not (dt_truth (de_callI h__law_barred_right room (by decide) hG tk (by rfl) (da_cons (de_var 2) (da_cons (de_var 5) da_nil)))))))) (dss_one (ds_ret de_bl)) dss_nil)))
    (dss_cons (ds_set 6 (de_callI h_best_twice room (by decide) hG tk (by rfl) (da_cons (de_var 2) da_nil)) nd)
    (dss_cons (ds_if (DW.dt (dw_or (dt_not (dt_truth (de_callI h_shows_serving room (by decide) hG tk (by rfl) (da_cons (de_var 2) (da_cons (de_var 6) (da_cons (de_callI h_serving_sequence room (by decide) hG tk (by rfl) (da_cons (de_var 2) (da_cons (de_var 6) da_nil))) da_nil)))))) (dw_or1 (dt_cmp op_notN s_notN (de_callI h_barring_sets room (by decide) hG tk (by rfl) (da_cons (de_var 2) (da_cons (de_var 6) da_nil))) de_non)))) (dss_one (ds_ret de_bl)) dss_nil)
    (dss_cons (ds_set 7 (de_op op_or s_or (de_var 6) (de_op op_shlW s_shl de_int (de_callI h__law_draw room (by decide) hG tk (by rfl) (da_cons (de_var 0) (da_cons (de_var 1) da_nil))))) nd)
    (dss_cons (ds_if (dt_not (dt_truth (de_callI h_serves room (by decide) hG tk (by rfl) (da_cons (de_var 2) (da_cons (de_var 7) da_nil))))) (dss_one (ds_ret de_bl)) dss_nil)
    (dss_cons (ds_set 8 (de_callI h__law_some_stage room (by decide) hG tk (by rfl) (da_cons (de_var 0) (da_cons (de_var 1) da_nil))) nd)
    (dss_one (ds_ret (de_callI h_serves room (by decide) hG tk (by rfl) (da_cons (de_callI h_then room (by decide) hG tk (by rfl) (da_cons (de_var 2) (da_cons (de_callI h_run_mapping room (by decide) hG tk (by rfl) (da_cons (de_var 1) (da_cons (de_lst (da_cons (de_var 8) da_nil)) da_nil))) da_nil))) (da_cons (de_op op_or s_or (de_var 6) (de_op op_shlW s_shl de_int (de_ix (by exact room_1 room) (de_var 8) de_int))) da_nil))))))))))))))⟩⟩
theorem sc_law : FnScope ["script", "k", "cell", "source"] ["script"] (defScope st_law) := ⟨rfl, rfl, rfl, by decide +kernel, rfl, by decide +kernel, by decide +kernel⟩
theorem i_law {f : Addr} {fd : FuncData} (b : Bf mg)
  (hS : sysB K = true)
  (gl : mg "law" = some (.ref f))
  (F : FunD K "law" "law" (defArgs st_law) (defBody st_law) (defScope st_law) [] [] f fd)
  {f__law_source : Addr} {fd__law_source : FuncData} (h__law_source : FnI P w K mg "_law_source" 1 ["cell", "k"] [.ln, .ln] d__law_source f__law_source fd__law_source)
  {f__law_right : Addr} {fd__law_right : FuncData} (h__law_right : FnI P w K mg "_law_right" 8 ["source"] [.io] d__law_right_k92 f__law_right fd__law_right) : FnI P w K mg "law" 9 ["script"] [.fz] d_law_k92 f fd := by
  have bd : Binds K fd ["script"] [] := F.bindsN fun _ _ _ _ _ _ us hl => match us, hl with | [_], _ => rfl
  have nd := sc_law.nd
  exact ⟨gl, F.kp, bd, fun base => fnd_den (Sb := [1, 2, 3]) F sc_law rfl (io_ok (by decide)) fun cd A out s0 H0 E room hG tk => ⟨_, (dss_cons (ds_for (passes_of (by rfl)) (by rfl) (di_enum (by rfl) b.enumerate (da_cons (de_op o_add s_add (de_sl (de_var 0) dp_none (dp_some de_int)) (de_lst (da_cons de_int da_nil))) da_nil)) (dg_tup (by rfl) (dgn_cons 1 nd (dgn_cons 2 nd dgn_nil))) (dss_cons (ds_set 3 (de_callI h__law_source room (by decide) hG tk (by rfl) (da_cons (de_var 2) (da_cons (de_var 1) da_nil))) nd)
    (dss_one (ds_if (DW.dt (dw_or (dt_not (dt_truth (de_callI h__law_right room (by decide) hG tk (by rfl) (da_cons (de_var 3) da_nil)))) (dw_or1 (dt_not (dt_truth (de_callI h__law_right room (by decide) hG tk (by rfl) (da_cons (de_var 3) da_nil))))))) (dss_one (ds_ret de_bl)) dss_nil))))
    (dss_one (ds_ret de_bl)))⟩⟩
end
theorem facts {P : Program} {w : World} {K : PySem.W.Frag} {h : Heap} {mg : Str → Option Value} {f : Addr} (X : K.In h) (G : h.Ns mainGlobals mg) (hfa : mg ("law" : Str) = some (.ref f)) (c : He.SaysD fa fn K) (hS : sysB K = true) :
    ∃ fd : FuncData, (∀ (s : Shared) (v : Value), BindsTo s fd ⟨[v], []⟩ [("script", v)]) ∧ ∀ base : Heap, FnG P w K mg base 9 f fd ["script"] (spM K [.fz] d_law_k92) := by
  have b : Bf mg := bf_of X G fun f hf => says_all c f (by unfold fa; exact List.mem_append_right _ hf)
  have xc_InvalidBits : ExF K mg "InvalidBits" := ExF.mk2 (He.glo_ok X G (c.fact 64 (f := .glo "InvalidBits") rfl)) (He.exc_ok (c.fact 65 (f := .exc "InvalidBits") rfl))
  have xc_InvalidPlace : ExF K mg "InvalidPlace" := ExF.mk2 (He.glo_ok X G (c.fact 66 (f := .glo "InvalidPlace") rfl)) (He.exc_ok (c.fact 67 (f := .exc "InvalidPlace") rfl))
  have xc_UnlikeBits : ExF K mg "UnlikeBits" := ExF.mk2 (He.glo_ok X G (c.fact 68 (f := .glo "UnlikeBits") rfl)) (He.exc_ok (c.fact 69 (f := .exc "UnlikeBits") rfl))
  obtain ⟨fd_is_integer, F_is_integer⟩ := c.def_ 0 (d := D_is_integer) rfl
  have g_is_integer := He.glo_ok X G (c.fact 0 (f := .glo "is_integer") rfl)
  obtain ⟨fd_need_few, F_need_few⟩ := c.def_ 1 (d := D_need_few) rfl
  have g_need_few := He.glo_ok X G (c.fact 1 (f := .glo "need_few") rfl)
  obtain ⟨fd_parity, F_parity⟩ := c.def_ 2 (d := D_parity) rfl
  have g_parity := He.glo_ok X G (c.fact 2 (f := .glo "parity") rfl)
  obtain ⟨fd_bits_of, F_bits_of⟩ := c.def_ 3 (d := D_bits_of) rfl
  have g_bits_of := He.glo_ok X G (c.fact 3 (f := .glo "bits_of") rfl)
  obtain ⟨fd_mask_of, F_mask_of⟩ := c.def_ 4 (d := D_mask_of) rfl
  have g_mask_of := He.glo_ok X G (c.fact 4 (f := .glo "mask_of") rfl)
  obtain ⟨fd_reduced, F_reduced⟩ := c.def_ 5 (d := D_reduced) rfl
  have g_reduced := He.glo_ok X G (c.fact 5 (f := .glo "reduced") rfl)
  obtain ⟨fd_put_together, F_put_together⟩ := c.def_ 6 (d := D_put_together) rfl
  have g_put_together := He.glo_ok X G (c.fact 6 (f := .glo "put_together") rfl)
  obtain ⟨fd_need_like, F_need_like⟩ := c.def_ 7 (d := D_need_like) rfl
  have g_need_like := He.glo_ok X G (c.fact 7 (f := .glo "need_like") rfl)
  obtain ⟨fd_identity, F_identity⟩ := c.def_ 8 (d := D_identity) rfl
  have g_identity := He.glo_ok X G (c.fact 8 (f := .glo "identity") rfl)
  obtain ⟨fd_is_moving, F_is_moving⟩ := c.def_ 9 (d := D_is_moving) rfl
  have g_is_moving := He.glo_ok X G (c.fact 9 (f := .glo "is_moving") rfl)
  obtain ⟨fd_changed_of, F_changed_of⟩ := c.def_ 10 (d := D_changed_of) rfl
  have g_changed_of := He.glo_ok X G (c.fact 10 (f := .glo "changed_of") rfl)
  obtain ⟨fd_independent_count, F_independent_count⟩ := c.def_ 11 (d := D_independent_count) rfl
  have g_independent_count := He.glo_ok X G (c.fact 11 (f := .glo "independent_count") rfl)
  obtain ⟨fd_sequence_to, F_sequence_to⟩ := c.def_ 12 (d := D_sequence_to) rfl
  have g_sequence_to := He.glo_ok X G (c.fact 12 (f := .glo "sequence_to") rfl)
  obtain ⟨fd_rings_of, F_rings_of⟩ := c.def_ 13 (d := D_rings_of) rfl
  have g_rings_of := He.glo_ok X G (c.fact 13 (f := .glo "rings_of") rfl)
  obtain ⟨fd__law_source, F__law_source⟩ := c.def_ 14 (d := D__law_source) rfl
  have g__law_source := He.glo_ok X G (c.fact 14 (f := .glo "_law_source") rfl)
  obtain ⟨fd__law_draw, F__law_draw⟩ := c.def_ 15 (d := D__law_draw) rfl
  have g__law_draw := He.glo_ok X G (c.fact 15 (f := .glo "_law_draw") rfl)
  obtain ⟨fd__law_odd, F__law_odd⟩ := c.def_ 16 (d := D__law_odd) rfl
  have g__law_odd := He.glo_ok X G (c.fact 16 (f := .glo "_law_odd") rfl)
  obtain ⟨fd__law_width, F__law_width⟩ := c.def_ 17 (d := D__law_width) rfl
  have g__law_width := He.glo_ok X G (c.fact 17 (f := .glo "_law_width") rfl)
  obtain ⟨fd__law_unlike, F__law_unlike⟩ := c.def_ 18 (d := D__law_unlike) rfl
  have g__law_unlike := He.glo_ok X G (c.fact 18 (f := .glo "_law_unlike") rfl)
  obtain ⟨fd_need_bits, F_need_bits⟩ := c.def_ 19 (d := D_need_bits) rfl
  have g_need_bits := He.glo_ok X G (c.fact 19 (f := .glo "need_bits") rfl)
  obtain ⟨fd_is_place, F_is_place⟩ := c.def_ 20 (d := D_is_place) rfl
  have g_is_place := He.glo_ok X G (c.fact 20 (f := .glo "is_place") rfl)
  obtain ⟨fd_are_bits, F_are_bits⟩ := c.def_ 21 (d := D_are_bits) rfl
  have g_are_bits := He.glo_ok X G (c.fact 21 (f := .glo "are_bits") rfl)
  obtain ⟨fd_moved, F_moved⟩ := c.def_ 22 (d := D_moved) rfl
  have g_moved := He.glo_ok X G (c.fact 22 (f := .glo "moved") rfl)
  obtain ⟨fd_made_by, F_made_by⟩ := c.def_ 23 (d := D_made_by) rfl
  have g_made_by := He.glo_ok X G (c.fact 23 (f := .glo "made_by") rfl)
  obtain ⟨fd_is_independent, F_is_independent⟩ := c.def_ 24 (d := D_is_independent) rfl
  have g_is_independent := He.glo_ok X G (c.fact 24 (f := .glo "is_independent") rfl)
  obtain ⟨fd_once_of, F_once_of⟩ := c.def_ 25 (d := D_once_of) rfl
  have g_once_of := He.glo_ok X G (c.fact 25 (f := .glo "once_of") rfl)
  obtain ⟨fd_best_of_move, F_best_of_move⟩ := c.def_ 26 (d := D_best_of_move) rfl
  have g_best_of_move := He.glo_ok X G (c.fact 26 (f := .glo "best_of_move") rfl)
  obtain ⟨fd__law_some_stage, F__law_some_stage⟩ := c.def_ 27 (d := D__law_some_stage) rfl
  have g__law_some_stage := He.glo_ok X G (c.fact 27 (f := .glo "_law_some_stage") rfl)
  obtain ⟨fd__law_made, F__law_made⟩ := c.def_ 28 (d := D__law_made) rfl
  have g__law_made := He.glo_ok X G (c.fact 28 (f := .glo "_law_made") rfl)
  obtain ⟨fd__law_mixed, F__law_mixed⟩ := c.def_ 29 (d := D__law_mixed) rfl
  have g__law_mixed := He.glo_ok X G (c.fact 29 (f := .glo "_law_mixed") rfl)
  obtain ⟨fd_need_place, F_need_place⟩ := c.def_ 30 (d := D_need_place) rfl
  have g_need_place := He.glo_ok X G (c.fact 30 (f := .glo "need_place") rfl)
  obtain ⟨fd_mapping_fault, F_mapping_fault⟩ := c.def_ 31 (d := D_mapping_fault) rfl
  have g_mapping_fault := He.glo_ok X G (c.fact 31 (f := .glo "mapping_fault") rfl)
  obtain ⟨fd_behind, F_behind⟩ := c.def_ 32 (d := D_behind) rfl
  have g_behind := He.glo_ok X G (c.fact 32 (f := .glo "behind") rfl)
  obtain ⟨fd_fits, F_fits⟩ := c.def_ 33 (d := D_fits) rfl
  have g_fits := He.glo_ok X G (c.fact 33 (f := .glo "fits") rfl)
  obtain ⟨fd_sets_before, F_sets_before⟩ := c.def_ 34 (d := D_sets_before) rfl
  have g_sets_before := He.glo_ok X G (c.fact 34 (f := .glo "sets_before") rfl)
  obtain ⟨fd_cost_of, F_cost_of⟩ := c.def_ 35 (d := D_cost_of) rfl
  have g_cost_of := He.glo_ok X G (c.fact 35 (f := .glo "cost_of") rfl)
  obtain ⟨fd__law_path, F__law_path⟩ := c.def_ 36 (d := D__law_path) rfl
  have g__law_path := He.glo_ok X G (c.fact 36 (f := .glo "_law_path") rfl)
  obtain ⟨fd__law_sequence, F__law_sequence⟩ := c.def_ 37 (d := D__law_sequence) rfl
  have g__law_sequence := He.glo_ok X G (c.fact 37 (f := .glo "_law_sequence") rfl)
  obtain ⟨fd_need_mapping, F_need_mapping⟩ := c.def_ 38 (d := D_need_mapping) rfl
  have g_need_mapping := He.glo_ok X G (c.fact 38 (f := .glo "need_mapping") rfl)
  obtain ⟨fd_run_fault, F_run_fault⟩ := c.def_ 39 (d := D_run_fault) rfl
  have g_run_fault := He.glo_ok X G (c.fact 39 (f := .glo "run_fault") rfl)
  obtain ⟨fd_best_with_sequence, F_best_with_sequence⟩ := c.def_ 40 (d := D_best_with_sequence) rfl
  have g_best_with_sequence := He.glo_ok X G (c.fact 40 (f := .glo "best_with_sequence") rfl)
  obtain ⟨fd__law_plan, F__law_plan⟩ := c.def_ 41 (d := D__law_plan) rfl
  have g__law_plan := He.glo_ok X G (c.fact 41 (f := .glo "_law_plan") rfl)
  obtain ⟨fd_then, F_then⟩ := c.def_ 42 (d := D_then) rfl
  have g_then := He.glo_ok X G (c.fact 42 (f := .glo "then") rfl)
  obtain ⟨fd_need_run, F_need_run⟩ := c.def_ 43 (d := D_need_run) rfl
  have g_need_run := He.glo_ok X G (c.fact 43 (f := .glo "need_run") rfl)
  obtain ⟨fd_best_of, F_best_of⟩ := c.def_ 44 (d := D_best_of) rfl
  have g_best_of := He.glo_ok X G (c.fact 44 (f := .glo "best_of") rfl)
  obtain ⟨fd_need_searched, F_need_searched⟩ := c.def_ 45 (d := D_need_searched) rfl
  have g_need_searched := He.glo_ok X G (c.fact 45 (f := .glo "need_searched") rfl)
  obtain ⟨fd_need_twice, F_need_twice⟩ := c.def_ 46 (d := D_need_twice) rfl
  have g_need_twice := He.glo_ok X G (c.fact 46 (f := .glo "need_twice") rfl)
  obtain ⟨fd_need_both, F_need_both⟩ := c.def_ 47 (d := D_need_both) rfl
  have g_need_both := He.glo_ok X G (c.fact 47 (f := .glo "need_both") rfl)
  obtain ⟨fd_fewest_of, F_fewest_of⟩ := c.def_ 48 (d := D_fewest_of) rfl
  have g_fewest_of := He.glo_ok X G (c.fact 48 (f := .glo "fewest_of") rfl)
  obtain ⟨fd_serves, F_serves⟩ := c.def_ 49 (d := D_serves) rfl
  have g_serves := He.glo_ok X G (c.fact 49 (f := .glo "serves") rfl)
  obtain ⟨fd_serving_sequence, F_serving_sequence⟩ := c.def_ 50 (d := D_serving_sequence) rfl
  have g_serving_sequence := He.glo_ok X G (c.fact 50 (f := .glo "serving_sequence") rfl)
  obtain ⟨fd_barring_sets, F_barring_sets⟩ := c.def_ 51 (d := D_barring_sets) rfl
  have g_barring_sets := He.glo_ok X G (c.fact 51 (f := .glo "barring_sets") rfl)
  obtain ⟨fd_shows_serving, F_shows_serving⟩ := c.def_ 52 (d := D_shows_serving) rfl
  have g_shows_serving := He.glo_ok X G (c.fact 52 (f := .glo "shows_serving") rfl)
  obtain ⟨fd_shows_barring, F_shows_barring⟩ := c.def_ 53 (d := D_shows_barring) rfl
  have g_shows_barring := He.glo_ok X G (c.fact 53 (f := .glo "shows_barring") rfl)
  obtain ⟨fd_best_twice, F_best_twice⟩ := c.def_ 54 (d := D_best_twice) rfl
  have g_best_twice := He.glo_ok X G (c.fact 54 (f := .glo "best_twice") rfl)
  obtain ⟨fd_run_mapping, F_run_mapping⟩ := c.def_ 55 (d := D_run_mapping) rfl
  have g_run_mapping := He.glo_ok X G (c.fact 55 (f := .glo "run_mapping") rfl)
  obtain ⟨fd_fewest_stages, F_fewest_stages⟩ := c.def_ 56 (d := D_fewest_stages) rfl
  have g_fewest_stages := He.glo_ok X G (c.fact 56 (f := .glo "fewest_stages") rfl)
  obtain ⟨fd__law_barred_right, F__law_barred_right⟩ := c.def_ 57 (d := D__law_barred_right) rfl
  have g__law_barred_right := He.glo_ok X G (c.fact 57 (f := .glo "_law_barred_right") rfl)
  obtain ⟨fd__law_right, F__law_right⟩ := c.def_ 58 (d := D__law_right) rfl
  have g__law_right := He.glo_ok X G (c.fact 58 (f := .glo "_law_right") rfl)
  obtain ⟨fd_law, F_law⟩ := c.def_ 59 (d := D_law) rfl
  have g_law := He.glo_ok X G (c.fact 59 (f := .glo "law") rfl)
  have k_MOST_BITS := He.int_ok X G (c.fact 60 (f := .int "MOST_BITS" 60) rfl)
  have k_MOST_STAGES := He.int_ok X G (c.fact 61 (f := .int "MOST_STAGES" 400) rfl)
  have k_MOST_SEARCHED := He.int_ok X G (c.fact 62 (f := .int "MOST_SEARCHED" 7) rfl)
  have k_MOST_SETS := He.int_ok X G (c.fact 63 (f := .int "MOST_SETS" 128) rfl)
  have h_is_integer := i_is_integer (P := P) (w := w) b hS g_is_integer F_is_integer
  have h_need_few := i_need_few (P := P) (w := w) b hS g_need_few F_need_few
  have h_parity := i_parity (P := P) (w := w) b hS g_parity F_parity
  have h_bits_of := i_bits_of (P := P) (w := w) b hS g_bits_of F_bits_of
  have h_mask_of := i_mask_of (P := P) (w := w) b hS g_mask_of F_mask_of
  have h_reduced := i_reduced (P := P) (w := w) b hS g_reduced F_reduced
  have h_put_together := i_put_together (P := P) (w := w) b hS g_put_together F_put_together
  have h_need_like := i_need_like (P := P) (w := w) b hS g_need_like F_need_like xc_UnlikeBits
  have h_identity := i_identity (P := P) (w := w) b hS g_identity F_identity
  have h_is_moving := i_is_moving (P := P) (w := w) b hS g_is_moving F_is_moving
  have h_changed_of := i_changed_of (P := P) (w := w) b hS g_changed_of F_changed_of
  have h_independent_count := i_independent_count (P := P) (w := w) b hS g_independent_count F_independent_count
  have h_sequence_to := i_sequence_to (P := P) (w := w) b hS g_sequence_to F_sequence_to
  have h_rings_of := i_rings_of (P := P) (w := w) b hS g_rings_of F_rings_of
  have h__law_source := i__law_source (P := P) (w := w) b hS g__law_source F__law_source
  have h__law_draw := i__law_draw (P := P) (w := w) b hS g__law_draw F__law_draw
  have h__law_odd := i__law_odd (P := P) (w := w) b hS g__law_odd F__law_odd
  have h__law_width := i__law_width (P := P) (w := w) b hS g__law_width F__law_width
  have h__law_unlike := i__law_unlike (P := P) (w := w) b hS g__law_unlike F__law_unlike
  have h_need_bits := i_need_bits (P := P) (w := w) b hS g_need_bits F_need_bits k_MOST_BITS h_is_integer xc_InvalidBits
  have h_is_place := i_is_place (P := P) (w := w) b hS g_is_place F_is_place h_is_integer
  have h_are_bits := i_are_bits (P := P) (w := w) b hS g_are_bits F_are_bits h_is_integer
  have h_moved := i_moved (P := P) (w := w) b hS g_moved F_moved h_parity
  have h_made_by := i_made_by (P := P) (w := w) b hS g_made_by F_made_by h_identity h_put_together h_bits_of h_parity
  have h_is_independent := i_is_independent (P := P) (w := w) b hS g_is_independent F_is_independent h_independent_count h_bits_of
  have h_once_of := i_once_of (P := P) (w := w) b hS g_once_of F_once_of h_mask_of h_changed_of
  have h_best_of_move := i_best_of_move (P := P) (w := w) b hS g_best_of_move F_best_of_move h_rings_of h_mask_of h_changed_of
  have h__law_some_stage := i__law_some_stage (P := P) (w := w) b hS g__law_some_stage F__law_some_stage h__law_draw
  have h__law_made := i__law_made (P := P) (w := w) b hS g__law_made F__law_made h__law_odd
  have h__law_mixed := i__law_mixed (P := P) (w := w) b hS g__law_mixed F__law_mixed h__law_draw
  have h_need_place := i_need_place (P := P) (w := w) b hS g_need_place F_need_place h_is_place xc_InvalidPlace
  have h_mapping_fault := i_mapping_fault (P := P) (w := w) b hS g_mapping_fault F_mapping_fault k_MOST_BITS h_is_place h_reduced
  have h_behind := i_behind (P := P) (w := w) b hS g_behind F_behind h_moved h_put_together h_bits_of
  have h_fits := i_fits (P := P) (w := w) b hS g_fits F_fits h_is_integer h_is_place
  have h_sets_before := i_sets_before (P := P) (w := w) b hS g_sets_before F_sets_before h_bits_of h_once_of h_is_independent
  have h_cost_of := i_cost_of (P := P) (w := w) b hS g_cost_of F_cost_of h_bits_of h_once_of
  have h__law_path := i__law_path (P := P) (w := w) b hS g__law_path F__law_path h__law_some_stage
  have h__law_sequence := i__law_sequence (P := P) (w := w) b hS g__law_sequence F__law_sequence h__law_draw h__law_mixed
  have h_need_mapping := i_need_mapping (P := P) (w := w) b hS g_need_mapping F_need_mapping h_mapping_fault
  have h_run_fault := i_run_fault (P := P) (w := w) b hS g_run_fault F_run_fault k_MOST_STAGES h_fits
  have h_best_with_sequence := i_best_with_sequence (P := P) (w := w) b hS g_best_with_sequence F_best_with_sequence h_sets_before h_once_of h_cost_of h_sequence_to
  have h__law_plan := i__law_plan (P := P) (w := w) b hS g__law_plan F__law_plan h__law_draw h__law_made h__law_mixed h__law_sequence h__law_path
  have h_then := i_then (P := P) (w := w) b hS g_then F_then h_need_mapping h_need_like h_behind
  have h_need_run := i_need_run (P := P) (w := w) b hS g_need_run F_need_run h_run_fault
  have h_best_of := i_best_of (P := P) (w := w) b hS g_best_of F_best_of h_is_moving h_best_of_move h_best_with_sequence
  have h_need_searched := i_need_searched (P := P) (w := w) b hS g_need_searched F_need_searched k_MOST_SEARCHED h_need_mapping h_is_moving h_need_few
  have h_need_twice := i_need_twice (P := P) (w := w) b hS g_need_twice F_need_twice k_MOST_SEARCHED h_need_mapping h_need_place h_need_few
  have h_need_both := i_need_both (P := P) (w := w) b hS g_need_both F_need_both h_need_bits h_need_run
  have h_fewest_of := i_fewest_of (P := P) (w := w) b hS g_fewest_of F_fewest_of h_cost_of h_best_of
  have h_serves := i_serves (P := P) (w := w) b hS g_serves F_serves h_need_twice h_once_of h_sets_before
  have h_serving_sequence := i_serving_sequence (P := P) (w := w) b hS g_serving_sequence F_serving_sequence h_need_twice h_sets_before h_once_of h_sequence_to
  have h_barring_sets := i_barring_sets (P := P) (w := w) b hS g_barring_sets F_barring_sets h_need_twice h_sets_before h_once_of
  have h_shows_serving := i_shows_serving (P := P) (w := w) b hS g_shows_serving F_shows_serving h_need_twice h_are_bits h_mask_of h_once_of h_is_independent
  have h_shows_barring := i_shows_barring (P := P) (w := w) b hS g_shows_barring F_shows_barring k_MOST_SETS h_need_twice h_once_of h_bits_of h_is_independent h_is_integer
  have h_best_twice := i_best_twice (P := P) (w := w) b hS g_best_twice F_best_twice k_MOST_SEARCHED h_need_mapping h_need_few h_best_of
  have h_run_mapping := i_run_mapping (P := P) (w := w) b hS g_run_mapping F_run_mapping h_need_both h_made_by
  have h_fewest_stages := i_fewest_stages (P := P) (w := w) b hS g_fewest_stages F_fewest_stages h_need_searched h_fewest_of
  have h__law_barred_right := i__law_barred_right (P := P) (w := w) b hS g__law_barred_right F__law_barred_right h_barring_sets h_serves h_shows_barring h_serving_sequence
  have h__law_right := i__law_right (P := P) (w := w) b hS g__law_right F__law_right h__law_plan h_best_twice h__law_some_stage h_serves h__law_draw h__law_unlike h_fewest_stages h_then h_shows_serving h_barring_sets h_run_mapping h__law_barred_right h_serving_sequence h__law_width
  have h_law := i_law (P := P) (w := w) b hS g_law F_law h__law_source h__law_right
  have e := hfa.symm.trans g_law
  cases e
  have bs := FunD.bindsA (ps := ["script"]) F_law fun _ _ _ _ _ _ us hl => match us, hl with | [_], _ => rfl
  exact ⟨fd_law, fun s v => bs s [v] rfl, fun base => h_law.ok base⟩
end K92
open PySem PySem.W PySem.Calls PyProof.Rows in
set_option maxHeartbeats 0 in
theorem K92.holds_of (hm : ∀ ns : List Int, ns.length ≤ 63 → PG.d_law_k92 [.lst (ns.map DN.D.int)] = .ok [] (.fz (.bl true))) : PySem.Challenge.rw_bitstages_k92_whole_no_fewer_stages.Holds := by
  w_on; o_law
  refine HandSHeadRun.head_any (r := OpenLaw.row PySem.Challenge.rw_bitstages_k92_whole_no_fewer_stages) (q := view (OpenLaw.row PySem.Challenge.rw_bitstages_k92_whole_no_fewer_stages).prog [77]) (H := K92.hk) (ob := K92.ob) (M := 8000) (loose := K92.loose) (d := HandSHeadRun.topDef (OpenLaw.row PySem.Challenge.rw_bitstages_k92_whole_no_fewer_stages).prog 77) (kwd := []) K92.ob_eq
    (by kernel_rfl) (fun s => by kernel_rfl) K92.run (by kernel_rfl) (by kernel_rfl) (by kernel_rfl) (by rfl) (by first | assumption | decide +kernel) (by decide +kernel) ⟨rfl, rfl, rfl, rfl, rfl, by decide +kernel⟩ ?hw ?hc
  case hw => w_witness2
  case hc =>
    refine DN.walk_den (l := PySem.Challenge.rw_bitstages_k92_whole_no_fewer_stages) (n := 63) (k := 9) (x := "script") (m := PG.d_law_k92) rfl (by decide) (by kernel_rfl) ⟨rfl, by decide, by decide⟩ ?F hm
    intro w mg fa h Y G hmg0
    obtain ⟨K, KX, c, hS⟩ := Y
    have hmg : mg ("law" : PySem.Str) = some (.ref fa) := by
      have e : (HandSHeadRun.topDef (OpenLaw.row PySem.Challenge.rw_bitstages_k92_whole_no_fewer_stages).prog 77).name = ("law" : PySem.Str) := by kernel_rfl
      rw [← e]
      exact hmg0
    obtain ⟨fd, hb, hF⟩ := K92.facts (P := (PySem.Challenge.rw_bitstages_k92_whole_no_fewer_stages).prog) (w := w) KX G hmg c hS
    exact ⟨K, fd, KX, hb, hF⟩
namespace PG
open DN
open PySem (PyData Str)
/-- the state of the draws: at most n mixed numbers were taken -/
def Src (n : Nat) (s : D) : Prop := ∃ a b c : Nat, s = .lst [iN a, iN b, iN c] ∧ b < 10 ^ 47 ∧ c ≤ n
theorem Src.mk {m a b c : Nat} (h1 : b < 10 ^ 47) (h2 : c ≤ m) : Src m (.lst [iN a, iN b, iN c]) := ⟨a, b, c, rfl, h1, h2⟩
theorem Src.mono {m n : Nat} {s : D} (h : Src m s) (q : m ≤ n) : Src n s := by
  obtain ⟨a, b, c, e, h1, h2⟩ := h
  exact ⟨a, b, c, e, h1, by omega⟩
theorem gAbs_i (c : Int) : gAbs [.int c] = some (.fz (iN c.natAbs)) := by
  show some (R.fz (.int (if c < 0 then -c else c))) = _
  congr 3
  split <;> omega
theorem gMax0 (a b : Nat) : gMax [iN 0, .int ((a : Int) - (b : Int))] = some (.fz (iN (a - b))) := by
  show some (R.fz (.int (if (a : Int) - (b : Int) > 0 then (a : Int) - (b : Int) else (0 : Int)))) = _
  congr 3
  split <;> omega
theorem gLt0 (c : Int) : gLt (.int c) (iN 0) = some (.fz (.bl (decide (c < 0)))) := nr rfl
theorem gPow3 {a : Nat} (h : a < 2 ^ 200) : gPow (iN a) (iN 3) = some (.fz (iN (a ^ 3))) := by
  refine (iI_ok (f := fun i j => i ^ j.toNat) (okPowN h (by decide))).trans ?_
  simp
theorem gPow10 {b : Nat} (h : b ≤ 100) : gPow (iN 10) (iN b) = some (.fz (iN (10 ^ b))) := gPow_N (by decide) (by omega)
theorem gDiv_b {a b : Nat} (h0 : 0 < b) (h : b < 2 ^ 400) : gDiv (iN a) (iN b) = some (.fz (iN (a / b))) := (iI_ok (by
  unfold okDiv
  refine and_t (decide_eq_true (by omega)) (Nat.ble_eq_true_of_le (m := 9000) ?_)
  rw [Int.natAbs_natCast]
  have := (Nat.log2_lt (Nat.ne_of_gt h0)).mpr h
  omega)).trans rfl
theorem source_ok (c : Int) {k : Nat} (h : k < 10 ^ 6) : ∃ s, d__law_source [.int c, iN k] = .ok [] (.own s) ∧ Src 0 s := by
  have hm := Nat.mod_lt c.natAbs (show 0 < 10 ^ 43 + 57 by decide)
  have hb : (decide (c < 0)).toNat ≤ 1 := Bool.toNat_le _
  refine ⟨.lst [iN (c.natAbs - 10 ^ 18), iN (c.natAbs % (10 ^ 43 + 57) * 89 + 2 * k + (decide (c < 0)).toNat), iN 0], ?_, _, _, _, rfl, by omega, Nat.le_refl _⟩
  have e1 : gPow (iN 10) (iN 18) = some (.fz (iN (10 ^ 18))) := gPow10 (by decide)
  have e2 : gPow (iN 10) (iN 43) = some (.fz (iN (10 ^ 43))) := gPow10 (by decide)
  have e3 : gSub (iN c.natAbs) (iN (10 ^ 18)) = some (.fz (.int ((c.natAbs : Int) - ((10 ^ 18 : Nat) : Int)))) := gSub_i _ _
  have e4 : gMul (iN (c.natAbs % (10 ^ 43 + 57))) (iN 89) = some (.fz (iN (c.natAbs % (10 ^ 43 + 57) * 89))) := gMul_r (by decide)
  have e5 : gMul (iN 2) (iN k) = some (.fz (iN (2 * k))) := gMul_l (by decide)
  have e6 : gMod (iN c.natAbs) (iN (10 ^ 43 + 57)) = some (.fz (iN (c.natAbs % (10 ^ 43 + 57)))) := gMod_N (by decide)
  generalize 10 ^ 43 = p at *
  generalize 10 ^ 18 = q at *
  simp [d__law_source, b__law_source, gAbs_i, e1, e2, e3, e4, e5, e6, gMax0, gLt0]
theorem draw_pos {a b c n : Nat} (ha : 0 < a) (hn : 0 < n) (hl : n < 2 ^ 400) : d__law_draw [.lst [iN a, iN b, iN c], iN n] = .ok [.lst [iN (a / n), iN b, iN c]] (.fz (iN (a % n))) := by
  have e1 : gDiv (iN a) (iN n) = some (.fz (iN (a / n))) := gDiv_b hn hl
  have e2 : gMod (iN a) (iN n) = some (.fz (iN (a % n))) := gMod_N hn
  simp [d__law_draw, b__law_draw, ha, e1, e2]
theorem draw_mix {b c n : Nat} (hb : b < 10 ^ 47) (hc : c < 10 ^ 9) (hn : 0 < n) : ∃ x : Nat, d__law_draw [.lst [iN 0, iN b, iN c], iN n] = .ok [.lst [iN 0, iN b, iN (c + 1)]] (.fz (iN (x % n))) := by
  have q39 : gPow (iN 10) (iN 39) = some (.fz (iN (10 ^ 39))) := gPow10 (by decide)
  have q41 : gPow (iN 10) (iN 41) = some (.fz (iN (10 ^ 41))) := gPow10 (by decide)
  have e1 : gMul (iN 700001) (iN (c + 1)) = some (.fz (iN (700001 * (c + 1)))) := gMul_l (by decide)
  have e2 : gPow (iN (b + 700001 * (c + 1))) (iN 3) = some (.fz (iN ((b + 700001 * (c + 1)) ^ 3))) := gPow3 (by omega)
  have m0 : 0 < 10 ^ 39 + 3 := by decide
  have m1 : 0 < 10 ^ 41 + 81 := by decide
  have h1 := Nat.mod_lt ((b + 700001 * (c + 1)) ^ 3) m0
  have k1 : gMod (iN ((b + 700001 * (c + 1)) ^ 3)) (iN (10 ^ 39 + 3)) = some (.fz (iN ((b + 700001 * (c + 1)) ^ 3 % (10 ^ 39 + 3)))) := gMod_N m0
  generalize (b + 700001 * (c + 1)) ^ 3 % (10 ^ 39 + 3) = y at *
  have e3 : gMul (iN y) (iN (c + 1)) = some (.fz (iN (y * (c + 1)))) := gMul_r (by omega)
  have h2 : y * (c + 1) ≤ (10 ^ 39 + 3) * 10 ^ 9 := Nat.mul_le_mul (by omega) (by omega)
  have e4 : gPow (iN (y * (c + 1) + 90031)) (iN 3) = some (.fz (iN ((y * (c + 1) + 90031) ^ 3))) := gPow3 (by omega)
  have k2 : gMod (iN ((y * (c + 1) + 90031) ^ 3)) (iN (10 ^ 41 + 81)) = some (.fz (iN ((y * (c + 1) + 90031) ^ 3 % (10 ^ 41 + 81)))) := gMod_N m1
  generalize (y * (c + 1) + 90031) ^ 3 % (10 ^ 41 + 81) = z at *
  have k3 : gDiv (iN z) (iN 131101) = some (.fz (iN (z / 131101))) := gDiv_N (by decide) (by decide)
  have k4 : gMod (iN (z / 131101)) (iN n) = some (.fz (iN (z / 131101 % n))) := gMod_N hn
  refine ⟨z / 131101, ?_⟩
  generalize 10 ^ 39 = p at *
  generalize 10 ^ 41 = q at *
  simp [d__law_draw, b__law_draw, q39, q41, e1, e2, k1, e3, e4, k2, k3, k4]
theorem p_draw {m n : Nat} {s : D} (h : Src m s) (hm : m < 10 ^ 9) (hn : 0 < n) (hl : n < 2 ^ 400) : ∃ (s' : D) (r : Nat), d__law_draw [s, iN n] = .ok [s'] (.fz (iN r)) ∧ Src (m + 1) s' ∧ r < n := by
  obtain ⟨a, b, c, rfl, h1, h2⟩ := h
  by_cases ha : a = 0
  · subst ha
    obtain ⟨x, e⟩ := draw_mix (c := c) h1 (by omega) hn
    have h3 : c + 1 ≤ m + 1 := by omega
    exact ⟨.lst [iN 0, iN b, iN (c + 1)], x % n, e, Src.mk h1 h3, Nat.mod_lt _ hn⟩
  · have h3 : c ≤ m + 1 := by omega
    exact ⟨.lst [iN (a / n), iN b, iN c], a % n, draw_pos (Nat.pos_of_ne_zero ha) hn hl, Src.mk h1 h3, Nat.mod_lt _ hn⟩
end PG
namespace Gf
theorem nodup_le : ∀ {n : Nat} {l : List Nat}, l.Nodup → (∀ x ∈ l, x < n) → l.length ≤ n
  | 0, l, h, q => by
    cases l with
    | nil => exact Nat.le_refl _
    | cons x l => exact absurd (q x List.mem_cons_self) (Nat.not_lt_zero x)
  | n + 1, l, h, q => by
    by_cases hn : n ∈ l
    · have h1 := nodup_le (n := n) (h.erase n) fun x hx => by
        obtain ⟨h2, h3⟩ := (h.mem_erase_iff).mp hx
        have := q x h3
        omega
      rw [List.length_erase_of_mem hn] at h1
      omega
    · have h1 := nodup_le (n := n) h fun x hx => by
        have := q x hx
        have : x ≠ n := fun e => hn (e ▸ hx)
        omega
      omega
theorem xor_c (a b : Nat) : a ^^^ b ^^^ a = b := by rw [Nat.xor_comm a b, Nat.xor_assoc, Nat.xor_self, Nat.xor_zero]
theorem xor_d (a b : Nat) : a ^^^ b ^^^ b = a := by rw [Nat.xor_assoc, Nat.xor_self, Nat.xor_zero]
theorem xor_4 (a b c d : Nat) : a ^^^ b ^^^ (c ^^^ d) = a ^^^ c ^^^ (b ^^^ d) := by
  rw [Nat.xor_assoc, Nat.xor_assoc, xor_l b c d]
theorem xor_eq_zero {a b : Nat} : a ^^^ b = 0 ↔ a = b := by
  constructor
  · intro h
    have := xor_x a b
    rw [h, Nat.xor_zero] at this
    exact this
  · rintro rfl; exact Nat.xor_self a
/-- the exclusive or of the masks whose indices are the bits of a number -/
def sel : List Nat → Nat → Nat
  | [], _ => 0
  | m :: ms, p => (if p.testBit 0 = true then m else 0) ^^^ sel ms (p / 2)
theorem sel_xor : ∀ (ms : List Nat) (p q : Nat), sel ms (p ^^^ q) = sel ms p ^^^ sel ms q
  | [], _, _ => by simp [sel]
  | m :: ms, p, q => by
    rw [sel, sel, sel, Nat.xor_div_two, sel_xor ms, Nat.testBit_xor, xor_4]
    congr 1
    cases p.testBit 0 <;> cases q.testBit 0 <;> simp
theorem sel_zero : ∀ ms : List Nat, sel ms 0 = 0
  | [] => rfl
  | m :: ms => by rw [sel, sel_zero ms]; simp
theorem sel_snoc : ∀ (ms : List Nat) (m p : Nat), sel (ms ++ [m]) p = sel ms p ^^^ (if p.testBit ms.length = true then m else 0)
  | [], m, p => by rw [List.nil_append, sel, sel, sel]; simp
  | x :: ms, m, p => by
    rw [List.cons_append, sel, sel, sel_snoc ms, Nat.xor_assoc, List.length_cons, Nat.testBit_succ]
theorem sel_small {ms : List Nat} {m p : Nat} (h : p < 2 ^ ms.length) : sel (ms ++ [m]) p = sel ms p := by
  rw [sel_snoc, Nat.testBit_lt_two_pow h]
  simp
theorem sel_pow : ∀ (ms : List Nat) (i : Nat) (h : i < ms.length), sel ms (2 ^ i) = ms[i]
  | m :: ms, 0, _ => by
    rw [sel, show (2 ^ 0 : Nat) / 2 = 0 from rfl, sel_zero]
    simp
  | m :: ms, i + 1, h => by
    have e : 2 ^ (i + 1) / 2 = 2 ^ i := by rw [Nat.pow_succ, Nat.mul_div_cancel _ (by decide)]
    rw [sel, e, sel_pow ms i (by simpa using h)]
    simp
theorem sel_span : ∀ (ms : List Nat) (p : Nat), Span ms (sel ms p)
  | [], _ => .nil
  | m :: ms, p => by
    rw [sel]
    split
    · exact .inn (sel_span ms _)
    · rw [Nat.zero_xor]; exact .out (sel_span ms _)
theorem span_sel : ∀ {ms : List Nat} {x : Nat}, Span ms x → ∃ p, p < 2 ^ ms.length ∧ sel ms p = x
  | _, _, .nil => ⟨0, by decide, rfl⟩
  | _, _, .out (m := m) (ms := ms) h => by
    obtain ⟨p, h1, h2⟩ := span_sel h
    refine ⟨2 * p, by rw [List.length_cons, Nat.pow_succ]; omega, ?_⟩
    rw [sel, show 2 * p / 2 = p by omega, h2, Nat.testBit_zero, show 2 * p % 2 = 0 by omega]
    simp
  | _, _, .inn (m := m) (ms := ms) h => by
    obtain ⟨p, h1, h2⟩ := span_sel h
    refine ⟨2 * p + 1, by rw [List.length_cons, Nat.pow_succ]; omega, ?_⟩
    rw [sel, show (2 * p + 1) / 2 = p by omega, h2, Nat.testBit_zero, show (2 * p + 1) % 2 = 1 by omega]
    simp
/-- pairs put together -/
inductive SpanP : List (Nat × Nat) → Nat → Nat → Prop where
  | nil : SpanP [] 0 0
  | out {m ms x y} : SpanP ms x y → SpanP (m :: ms) x y
  | inn {m ms x y} : SpanP ms x y → SpanP (m :: ms) (m.1 ^^^ x) (m.2 ^^^ y)
theorem SpanP.zero : ∀ L : List (Nat × Nat), SpanP L 0 0
  | [] => .nil
  | _ :: L => .out (SpanP.zero L)
theorem SpanP.cast {L : List (Nat × Nat)} {x y x' y' : Nat} (h : SpanP L x y) (e : x = x') (f : y = y') : SpanP L x' y' := by subst e; subst f; exact h
theorem SpanP.xor : ∀ {L : List (Nat × Nat)} {x y x' y' : Nat}, SpanP L x y → SpanP L x' y' → SpanP L (x ^^^ x') (y ^^^ y')
  | _, _, _, _, _, .nil, .nil => .nil
  | _, _, _, _, _, .out a, .out b => .out (SpanP.xor a b)
  | _, _, _, _, _, .out a, .inn b => (SpanP.inn (SpanP.xor a b)).cast (xor_l _ _ _) (xor_l _ _ _)
  | _, _, _, _, _, .inn a, .out b => (SpanP.inn (SpanP.xor a b)).cast (Nat.xor_assoc _ _ _).symm (Nat.xor_assoc _ _ _).symm
  | _, _, _, _, _, .inn a, .inn b => (SpanP.out (SpanP.xor a b)).cast (by rw [xor_4, Nat.xor_self, Nat.zero_xor]) (by rw [xor_4, Nat.xor_self, Nat.zero_xor])
theorem SpanP.mem : ∀ {L : List (Nat × Nat)} {m : Nat × Nat}, m ∈ L → SpanP L m.1 m.2
  | x :: L, m, h => by
    rcases List.mem_cons.mp h with rfl | h
    · exact (SpanP.inn (SpanP.zero L)).cast (Nat.xor_zero _) (Nat.xor_zero _)
    · exact .out (SpanP.mem h)
theorem SpanP.fst : ∀ {L : List (Nat × Nat)} {x y : Nat}, SpanP L x y → Span (L.map (·.1)) x
  | _, _, _, .nil => .nil
  | _, _, _, .out h => .out h.fst
  | _, _, _, .inn h => .inn h.fst
theorem SpanP.snd : ∀ {L : List (Nat × Nat)} {x y : Nat}, SpanP L x y → Span (L.map (·.2)) y
  | _, _, _, .nil => .nil
  | _, _, _, .out h => .out h.snd
  | _, _, _, .inn h => .inn h.snd
theorem SpanP.sel {ms : List Nat} : ∀ {L : List (Nat × Nat)} {x y : Nat}, (∀ m ∈ L, Gf.sel ms m.2 = m.1) → SpanP L x y → Gf.sel ms y = x
  | _, _, _, _, .nil => sel_zero ms
  | _, _, _, q, .out h => SpanP.sel (fun m hm => q m (List.mem_cons_of_mem _ hm)) h
  | _, _, _, q, .inn h => by
    rw [sel_xor, q _ List.mem_cons_self, SpanP.sel (fun m hm => q m (List.mem_cons_of_mem _ hm)) h]
theorem SpanP.of_mem {L M : List (Nat × Nat)} : ∀ {x y : Nat}, (∀ m ∈ L, m ∈ M) → SpanP L x y → SpanP M x y := by
  induction L with
  | nil => intro x y _ h; cases h; exact .zero M
  | cons m L ih =>
    intro x y q h
    cases h with
    | out h => exact ih (fun k hk => q k (List.mem_cons_of_mem _ hk)) h
    | inn h => exact (SpanP.mem (q m List.mem_cons_self)).xor (ih (fun k hk => q k (List.mem_cons_of_mem _ hk)) h)
end Gf
namespace PG
open DN Gf
open L2 (Key)
open PySem (PyData Str)
theorem p_is_integer (x lo hi : Nat) : d_is_integer [iN x, iN lo, iN hi] = .ok [] (.fz (.bl (decide (lo ≤ x) && decide (x ≤ hi)))) := by
  simp [d_is_integer, b_is_integer]
  by_cases h : lo ≤ x <;> simp [h]
theorem p_need_bits {b : Nat} (h1 : 1 ≤ b) (h2 : b ≤ 60) : d_need_bits [iN b] = .ok [] (.fz .non) := by
  simp [d_need_bits, b_need_bits, p_is_integer, h1, h2]
theorem p_is_place {b m : Nat} (hb : b ≤ 99) : d_is_place [iN b, iN m] = .ok [] (.fz (.bl (decide (m < 2 ^ b)))) := by
  have h0 := Nat.two_pow_pos b
  have e : decide (m ≤ 2 ^ b - 1) = decide (m < 2 ^ b) := by rw [decide_eq_decide]; omega
  have hb' : b ≤ 100000 := by omega
  have h1 : 1 ≤ 2 ^ b := h0
  simp [d_is_place, b_is_place, p_is_integer, hb', h1, e]
theorem p_need_place {b m : Nat} (hb : b ≤ 99) (hm : m < 2 ^ b) : d_need_place [iN b, iN m] = .ok [] (.fz .non) := by
  simp [d_need_place, b_need_place, p_is_place hb, hm]
/-- the dict of the leads: by bit the mask and its picks -/
abbrev Leads := List (Nat × Nat × Nat)
def ldK (L : Leads) : List (Key × D) := L.map fun p => (.inl (p.1 : Int), .tup [iN p.2.1, iN p.2.2])
def ldD (L : Leads) : D := .dct (ldK L)
def find (L : Leads) (b : Nat) : Option (Nat × Nat) := (L.find? fun p => decide (p.1 = b)).map (·.2)
theorem val_ld (L : Leads) (b : Nat) : valD (ldK L) (.inl (b : Int)) = (find L b).map fun q => .tup [iN q.1, iN q.2] := by
  induction L with
  | nil => rfl
  | cons p L ih =>
    unfold valD find ldK at ih ⊢
    rw [List.map_cons, List.find?_cons, List.find?_cons]
    by_cases h : p.1 = b
    · simp [h]
    · have h' : ¬ ((p.1 : Int) = (b : Int)) := by omega
      simp only [Sum.inl.injEq, h, h', decide_false, Bool.false_eq_true]
      exact ih
theorem keys_ld (L : Leads) : keysI (ldK L) = some (L.map fun p => (p.1 : Int)) := by
  induction L with
  | nil => rfl
  | cons p L ih => unfold ldK at ih ⊢; rw [List.map_cons, keysI, ih]; rfl
theorem ldK_len (L : Leads) : (ldK L).length = L.length := List.length_map _
@[simp] theorem gIx_ld (L : Leads) (b : Nat) : gIx (ldD L) (iN b) = (find L b).map fun q => .fz (.tup [iN q.1, iN q.2]) := by
  unfold ldD
  rw [gIx_dct, val_ld, Option.map_map]
  rfl
@[simp] theorem gIn_ld (L : Leads) (b : Nat) : gIn (iN b) (ldD L) = some (.fz (.bl (find L b).isSome)) := by
  unfold ldD
  rw [gIn_dct, val_ld, Option.isSome_map]
@[simp] theorem gNotIn_ld (L : Leads) (b : Nat) : gNotIn (iN b) (ldD L) = some (.fz (.bl (!(find L b).isSome))) := by
  unfold ldD
  rw [gNotIn_dct, val_ld, Option.isSome_map]
@[simp] theorem gLen_ld (L : Leads) : gLen [ldD L] = some (.fz (iN L.length)) := by
  unfold ldD
  rw [gLen_dct, ldK_len]
def redStep (L : Leads) (s : Nat × Nat) (b : Nat) : Nat × Nat := if s.1.testBit b = true then (match find L b with
  | some q => (s.1 ^^^ q.1, s.2 ^^^ q.2)
  | none => s) else s
/-- the bits, ascending -/
def sortN (bs : List Nat) : List Nat := (sortI (bs.map fun b : Nat => (b : Int))).map Int.toNat
theorem sortN_eq (bs : List Nat) : sortI (bs.map fun b : Nat => (b : Int)) = (sortN bs).map fun b : Nat => (b : Int) := by
  unfold sortN
  rw [List.map_map]
  refine (List.map_id _).symm.trans (List.map_congr_left fun x hx => ?_)
  have := (sortI_perm _).mem_iff.mp hx
  obtain ⟨b, _, rfl⟩ := List.mem_map.mp this
  simp
theorem sortN_perm (bs : List Nat) : (sortN bs).Perm bs := by
  have := (sortI_perm (bs.map fun b : Nat => (b : Int))).map Int.toNat
  rw [List.map_map] at this
  have e : (Int.toNat ∘ fun b : Nat => (b : Int)) = id := funext fun x => by simp
  rw [e, List.map_id] at this
  exact this
theorem mem_sortN {bs : List Nat} {b : Nat} : b ∈ sortN bs ↔ b ∈ bs := (sortN_perm bs).mem_iff
theorem sortN_le (bs : List Nat) : (sortN bs).Pairwise (· ≤ ·) := by
  have := sortI_srt (bs.map fun b : Nat => (b : Int))
  rw [sortN_eq] at this
  have := List.pairwise_map.mp this
  exact this.imp fun q => Int.ofNat_le.mp q
theorem sortN_lt {bs : List Nat} (h : bs.Nodup) : (sortN bs).Pairwise (· < ·) :=
  ((sortN_le bs).and ((sortN_perm bs).nodup_iff.mpr h)).imp fun q => Nat.lt_of_le_of_ne q.1 q.2
theorem gSorted_ld {L : Leads} (hL : L.length < 64) : gSorted [ldD L] = some (.own (.lst ((sortN (L.map (·.1))).map iN))) := by
  unfold ldD
  have e1 : (L.map fun p => (p.1 : Int)) = (L.map (·.1)).map fun b : Nat => (b : Int) := by rw [List.map_map]; rfl
  refine (gSorted.eq_2 _).trans ?_
  simp only [keys_ld, List.length_map, hL, if_true, e1, sortN_eq]
  rw [List.map_map]
  rfl
def red (L : Leads) (s : Nat × Nat) : Nat × Nat := (sortN (L.map (·.1))).foldl (redStep L) s
theorem find_some {L : Leads} {b : Nat} (h : b ∈ L.map (·.1)) : ∃ q, find L b = some q := by
  unfold find
  cases e : L.find? (fun p => decide (p.1 = b)) with
  | some p => exact ⟨p.2, rfl⟩
  | none =>
    obtain ⟨p, hp, rfl⟩ := List.mem_map.mp h
    have := List.find?_eq_none.mp e p hp
    simp at this
theorem find_mem {L : Leads} {b : Nat} {q : Nat × Nat} (h : find L b = some q) : (b, q) ∈ L := by
  unfold find at h
  obtain ⟨p, hp, rfl⟩ := Option.map_eq_some_iff.mp h
  have h1 := List.find?_some hp
  have h2 := List.mem_of_find?_eq_some hp
  have e : p.1 = b := of_decide_eq_true h1
  subst e
  exact h2
theorem p_reduced {L : Leads} {m p : Nat} (hL : L.length < 64) : d_reduced [ldD L, iN m, iN p] = .ok [] (.tp [.fz (iN (red L (m, p)).1), .fz (iN (red L (m, p)).2)]) := by
  obtain ⟨ρ', e, x, rfl⟩ := loop_l (g := store 3) (b := x_reduced_1) iN (fun d ρ => ∃ x, ρ = [.ln (ldD L), .fz (iN (d.foldl (redStep L) (m, p)).1), .fz (iN (d.foldl (redStep L) (m, p)).2), x])
    (xs := sortN (L.map (·.1))) (ρ := [.ln (ldD L), .fz (iN m), .fz (iN p), .un]) ⟨_, rfl⟩ (by
    rintro d b t ρ hx ⟨x, rfl⟩
    obtain ⟨q, hq⟩ := find_some (mem_sortN.mp (show b ∈ sortN (L.map (·.1)) by rw [hx]; simp))
    rw [List.foldl_append]
    generalize d.foldl (redStep L) (m, p) = s
    have hv := val_ld L b
    rw [hq] at hv
    cases ht : s.1.testBit b <;> simp [x_reduced_1, redStep, ht, hq])
  simp [d_reduced, b_reduced, gSorted_ld hL, e, red]
/-- each lead has its bit and none below -/
def Low (L : Leads) : Prop := ∀ p ∈ L, p.2.1.testBit p.1 = true ∧ ∀ j, j < p.1 → p.2.1.testBit j = false
theorem red_go {L : Leads} (low : Low L) : ∀ (bs done : List Nat) (s : Nat × Nat), bs.Pairwise (· < ·) → (∀ c ∈ done, ∀ b ∈ bs, c < b) → (∀ c ∈ done, s.1.testBit c = false) → (∀ b ∈ bs, b ∈ L.map (·.1)) →
    (∀ c ∈ done ++ bs, (bs.foldl (redStep L) s).1.testBit c = false) ∧ SpanP (L.map (·.2)) (s.1 ^^^ (bs.foldl (redStep L) s).1) (s.2 ^^^ (bs.foldl (redStep L) s).2)
  | [], done, s, _, _, h, _ => ⟨by simpa using h, by rw [List.foldl_nil, Nat.xor_self, Nat.xor_self]; exact .zero _⟩
  | b :: bs, done, s, hp, hlt, h, hm => by
    obtain ⟨p1, p2⟩ := List.pairwise_cons.mp hp
    obtain ⟨q, hq⟩ := find_some (hm b List.mem_cons_self)
    obtain ⟨l1, l2⟩ := low _ (find_mem hq)
    have key : (∀ c ∈ done ++ [b], (redStep L s b).1.testBit c = false) ∧ SpanP (L.map (·.2)) (s.1 ^^^ (redStep L s b).1) (s.2 ^^^ (redStep L s b).2) := by
      unfold redStep
      by_cases ht : s.1.testBit b = true
      · simp only [ht, if_true, hq]
        refine ⟨fun c hc => ?_, ?_⟩
        · rw [Nat.testBit_xor]
          rcases List.mem_append.mp hc with hc | hc
          · rw [h c hc, l2 c (hlt c hc b List.mem_cons_self)]
            rfl
          · rw [List.mem_singleton.mp hc, ht, l1]
            rfl
        · rw [Gf.xor_x, Gf.xor_x]
          exact SpanP.mem (m := q) (List.mem_map.mpr ⟨_, find_mem hq, rfl⟩)
      · simp only [ht, Bool.false_eq_true, if_false]
        refine ⟨fun c hc => ?_, by rw [Nat.xor_self, Nat.xor_self]; exact .zero _⟩
        rcases List.mem_append.mp hc with hc | hc
        · exact h c hc
        · rw [List.mem_singleton.mp hc]; exact Bool.eq_false_iff.mpr ht
    obtain ⟨k1, k2⟩ := key
    obtain ⟨r1, r2⟩ := red_go low bs (done ++ [b]) (redStep L s b) p2 (fun c hc d hd => by
      rcases List.mem_append.mp hc with hc | hc
      · exact hlt c hc d (List.mem_cons_of_mem _ hd)
      · rw [List.mem_singleton.mp hc]; exact p1 d hd) k1 fun d hd => hm d (List.mem_cons_of_mem _ hd)
    refine ⟨fun c hc => r1 c (by simpa using hc), ?_⟩
    have := k2.xor r2
    rw [Nat.xor_assoc, Gf.xor_x, Nat.xor_assoc, Gf.xor_x] at this
    exact this
theorem red_spec {L : Leads} (low : Low L) (hn : (L.map (·.1)).Nodup) (s : Nat × Nat) : (∀ p ∈ L, (red L s).1.testBit p.1 = false) ∧ SpanP (L.map (·.2)) (s.1 ^^^ (red L s).1) (s.2 ^^^ (red L s).2) := by
  obtain ⟨h1, h2⟩ := red_go low (sortN (L.map (·.1))) [] s (sortN_lt hn) (by simp) (by simp) fun b hb => mem_sortN.mp hb
  exact ⟨fun p hp => h1 _ (by simpa using mem_sortN.mpr (List.mem_map.mpr ⟨p, hp, rfl⟩)), h2⟩
/-- what eliminated keeps -/
structure Elim (b : Nat) (L : Leads) (E : List Nat) (ms : List Nat) : Prop where
  low : Low L
  nd : (L.map (·.1)).Nodup
  lt : ∀ p ∈ L, p.1 < b
  lm : ∀ p ∈ L, p.2.1 < 2 ^ b
  bas : Gf.Basis (L.map fun p => (p.1, p.2.1)) ms
  pk : ∀ p ∈ L, p.2.2 < 2 ^ ms.length ∧ sel ms p.2.2 = p.2.1
  ek : ∀ e ∈ E, e < 2 ^ ms.length ∧ e ≠ 0 ∧ sel ms e = 0
  all : ∀ q, q < 2 ^ ms.length → Span (L.map (·.2.2) ++ E) q
  cnt : L.length + E.length = ms.length
theorem Elim.nil {b : Nat} : Elim b [] [] [] := ⟨fun p hp => (nomatch hp), List.nodup_nil, fun p hp => (nomatch hp), fun p hp => (nomatch hp), Gf.Basis.nil, fun p hp => (nomatch hp), fun p hp => (nomatch hp), fun q hq => by
  have : q = 0 := by simpa using hq
  subst this
  exact Span.zero _, rfl⟩
theorem map_snd (L : Leads) : (L.map fun p => (p.1, p.2.1)).map (·.2) = L.map (·.2.1) := by rw [List.map_map]; rfl
theorem map_f (L : Leads) : (L.map (·.2)).map (·.1) = L.map (·.2.1) := by rw [List.map_map]; rfl
theorem map_s (L : Leads) : (L.map (·.2)).map (·.2) = L.map (·.2.2) := by rw [List.map_map]; rfl
section
variable {b : Nat} {L : Leads} {E ms : List Nat}
theorem Elim.len (h : Elim b L E ms) : L.length ≤ b := by
  have := Gf.nodup_le h.nd (n := b) fun x hx => by
    obtain ⟨p, hp, rfl⟩ := List.mem_map.mp hx
    exact h.lt p hp
  rwa [List.length_map] at this
theorem Elim.rk (h : Elim b L E ms) : L.length = Gf.rk ms := by
  have := h.bas.len
  rwa [List.length_map] at this
theorem xor_lt {a c n : Nat} (h1 : a < 2 ^ n) (h2 : c < 2 ^ n) : a ^^^ c < 2 ^ n := Nat.xor_lt_two_pow h1 h2
theorem pow_mono {a n m : Nat} (h : a < 2 ^ n) (q : n ≤ m) : a < 2 ^ m := Nat.lt_of_lt_of_le h (Nat.pow_le_pow_right (by decide) q)
/-- what the picks behind a further mask are -/
theorem Elim.step (h : Elim b L E ms) (m : Nat) : (red L (m, 2 ^ ms.length)).2 < 2 ^ (ms.length + 1) ∧ (red L (m, 2 ^ ms.length)).2 ≠ 0 ∧ sel (ms ++ [m]) (red L (m, 2 ^ ms.length)).2 = (red L (m, 2 ^ ms.length)).1 ∧
    ∃ z, z < 2 ^ ms.length ∧ (red L (m, 2 ^ ms.length)).2 = 2 ^ ms.length ^^^ z := by
  obtain ⟨h1, h2⟩ := red_spec h.low h.nd (m, 2 ^ ms.length)
  generalize red L (m, 2 ^ ms.length) = r at *
  have hz := h2.snd
  rw [map_s] at hz
  have hlt : 2 ^ ms.length ^^^ r.2 < 2 ^ ms.length := hz.bound fun x hx => by
    obtain ⟨p, hp, rfl⟩ := List.mem_map.mp hx
    exact (h.pk p hp).1
  have e : r.2 = 2 ^ ms.length ^^^ (2 ^ ms.length ^^^ r.2) := (Gf.xor_x _ _).symm
  have hs : sel ms (2 ^ ms.length ^^^ r.2) = m ^^^ r.1 := SpanP.sel (fun q hq => by
    obtain ⟨p, hp, rfl⟩ := List.mem_map.mp hq
    exact (h.pk p hp).2) h2
  refine ⟨?_, ?_, ?_, _, hlt, e⟩
  · rw [e]
    exact xor_lt (Nat.pow_lt_pow_right (by decide) (Nat.lt_succ_self _)) (pow_mono hlt (Nat.le_succ _))
  · intro h0
    rw [h0, Nat.xor_zero] at hlt
    exact absurd hlt (Nat.lt_irrefl _)
  · have h3 : sel (ms ++ [m]) (2 ^ ms.length ^^^ r.2) = m ^^^ r.1 := by rw [sel_small hlt, hs]
    rw [sel_xor, sel_pow (ms ++ [m]) ms.length (by simp)] at h3
    have h4 : (ms ++ [m])[ms.length]'(by simp) = m := by simp
    rw [h4] at h3
    have := congrArg (m ^^^ ·) h3
    simp only [Gf.xor_x] at this
    exact this
theorem span_more {A : List Nat} {n y z : Nat} (hA : ∀ q, q < 2 ^ n → Span A q) (hz : z < 2 ^ n) (B : List Nat) (hB : ∀ x ∈ A, x ∈ B) (hy : (2 ^ n ^^^ z) ∈ B) {q : Nat} (hq : q < 2 ^ (n + 1)) : Span B q := by
  have hA' : ∀ q, q < 2 ^ n → Span B q := fun q h => (hA q h).of_mem hB
  have hn : Span B (2 ^ n) := by
    have := (Span.mem hy).xor (hA' z hz)
    rwa [Gf.xor_d] at this
  by_cases ht : q.testBit n = true
  · have : q ^^^ 2 ^ n < 2 ^ n := by
      refine Nat.lt_pow_two_of_testBit _ fun i hi => ?_
      rw [Nat.testBit_xor, Nat.testBit_two_pow]
      by_cases hin : n = i
      · subst hin; simp [ht]
      · rw [Nat.testBit_lt_two_pow (pow_mono hq (by omega))]
        simp [hin]
    have := (hA' _ this).xor hn
    rwa [Gf.xor_d] at this
  · refine hA' q (Nat.lt_pow_two_of_testBit _ fun i hi => ?_)
    by_cases hin : n = i
    · subst hin; exact Bool.eq_false_iff.mpr ht
    · exact Nat.testBit_lt_two_pow (pow_mono hq (by omega))
theorem Elim.zero {m : Nat} (h : Elim b L E ms) (hz : (red L (m, 2 ^ ms.length)).1 = 0) : Elim b L (E ++ [(red L (m, 2 ^ ms.length)).2]) (ms ++ [m]) := by
  obtain ⟨h1, h2⟩ := red_spec h.low h.nd (m, 2 ^ ms.length)
  obtain ⟨s1, s2, s3, z, s4, s5⟩ := h.step m
  rw [hz] at h2 s3
  have len : (ms ++ [m]).length = ms.length + 1 := by simp
  have h2 := h2.fst
  refine ⟨h.low, h.nd, h.lt, h.lm, h.bas.same ?_, fun p hp => ?_, fun e he => ?_, fun q hq => ?_, ?_⟩
  · rw [map_snd]
    rw [map_f] at h2
    simpa using h2
  · obtain ⟨k1, k2⟩ := h.pk p hp
    exact ⟨by rw [len]; exact pow_mono k1 (Nat.le_succ _), by rw [sel_small k1, k2]⟩
  · rw [len]
    rcases List.mem_append.mp he with he | he
    · obtain ⟨k1, k2, k3⟩ := h.ek e he
      exact ⟨pow_mono k1 (Nat.le_succ _), k2, by rw [sel_small k1, k3]⟩
    · rw [List.mem_singleton.mp he]
      exact ⟨s1, s2, s3⟩
  · rw [len] at hq
    refine span_more h.all s4 _ (fun x hx => ?_) ?_ hq (y := 0)
    · rw [← List.append_assoc]; exact List.mem_append_left _ hx
    · rw [← s5]; simp
  · have := h.cnt
    simp
    omega
theorem Elim.more {m t : Nat} (h : Elim b L E ms) (hm : m < 2 ^ b) (h0 : (red L (m, 2 ^ ms.length)).1 ≠ 0) (t1 : (red L (m, 2 ^ ms.length)).1.testBit t = true) (t2 : ∀ j, j < t → (red L (m, 2 ^ ms.length)).1.testBit j = false) :
    Elim b (L ++ [(t, red L (m, 2 ^ ms.length))]) E (ms ++ [m]) ∧ t ∉ L.map (·.1) := by
  obtain ⟨h1, h2⟩ := red_spec h.low h.nd (m, 2 ^ ms.length)
  obtain ⟨s1, s2, s3, z, s4, s5⟩ := h.step m
  generalize red L (m, 2 ^ ms.length) = r at *
  have len : (ms ++ [m]).length = ms.length + 1 := by simp
  have h2 := h2.fst
  rw [map_f] at h2
  have hlt : r.1 < 2 ^ b := by
    have q := h2.bound (n := b) fun x hx => by
      obtain ⟨p, hp, rfl⟩ := List.mem_map.mp hx
      exact h.lm p hp
    have := Nat.xor_lt_two_pow hm q
    rwa [Gf.xor_x] at this
  have tb : t < b := by
    rcases Nat.lt_or_ge t b with q | q
    · exact q
    · rw [Nat.testBit_lt_two_pow (pow_mono hlt q)] at t1
      cases t1
  have tn : t ∉ L.map (·.1) := fun hx => by
    obtain ⟨p', hp, e⟩ := List.mem_map.mp hx
    have := h1 p' hp
    rw [e, t1] at this
    cases this
  refine ⟨⟨fun q hq => ?_, ?_, fun q hq => ?_, fun q hq => ?_, ?_, fun p hp => ?_, fun e he => ?_, fun q hq => ?_, ?_⟩, tn⟩
  · rcases List.mem_append.mp hq with hq | hq
    · exact h.low q hq
    · rw [List.mem_singleton.mp hq]; exact ⟨t1, t2⟩
  · rw [List.map_append]
    refine List.nodup_append.mpr ⟨h.nd, by simp, fun a ha c hc e => ?_⟩
    have hc' : c = t := by simpa using hc
    rw [hc'] at e
    subst e
    exact tn ha
  · rcases List.mem_append.mp hq with hq | hq
    · exact h.lt q hq
    · rw [List.mem_singleton.mp hq]; exact tb
  · rcases List.mem_append.mp hq with hq | hq
    · exact h.lm q hq
    · rw [List.mem_singleton.mp hq]; exact hlt
  · rw [List.map_append]
    refine h.bas.more (fun q hq => ?_) t1 (by rw [map_snd]; exact h2)
    obtain ⟨p', hp, rfl⟩ := List.mem_map.mp hq
    exact h1 p' hp
  · rw [len]
    rcases List.mem_append.mp hp with hp | hp
    · obtain ⟨k1, k2⟩ := h.pk p hp
      exact ⟨pow_mono k1 (Nat.le_succ _), by rw [sel_small k1, k2]⟩
    · rw [List.mem_singleton.mp hp]
      exact ⟨s1, s3⟩
  · rw [len]
    obtain ⟨k1, k2, k3⟩ := h.ek e he
    exact ⟨pow_mono k1 (Nat.le_succ _), k2, by rw [sel_small k1, k3]⟩
  · rw [len] at hq
    refine span_more h.all s4 _ (fun x hx => ?_) ?_ hq (y := 0)
    · rcases List.mem_append.mp hx with hx | hx
      · rw [List.map_append]; exact List.mem_append_left _ (List.mem_append_left _ hx)
      · exact List.mem_append_right _ hx
    · rw [← s5]; simp
  · have := h.cnt
    simp
    omega
end
theorem put_ld {L : Leads} {t x p : Nat} (h : t ∉ L.map (·.1)) : putD (ldK L) (.inl (t : Int)) (.tup [iN x, iN p]) = ldK (L ++ [(t, x, p)]) := by
  unfold putD ldK
  rw [if_neg, List.map_append]
  · rfl
  · intro q
    obtain ⟨z, hz, e⟩ := List.any_eq_true.mp q
    obtain ⟨p', hp, rfl⟩ := List.mem_map.mp hz
    have e := of_decide_eq_true e
    simp only [Sum.inl.injEq] at e
    exact h (List.mem_map.mpr ⟨p', hp, by omega⟩)
theorem put_ldD {L : Leads} {t x p : Nat} (h : t ∉ L.map (·.1)) (hl : L.length ≤ 100000) : gPut (ldD L) (iN t) (.tup [iN x, iN p]) = some (ldD (L ++ [(t, x, p)])) := by
  unfold ldD
  rw [gPut_dct (by rw [ldK_len]; exact hl), put_ld h]
end PG
namespace Gf
theorem top_bit {x : Nat} (h : x ≠ 0) : x.testBit x.log2 = true := by
  have h1 : 2 ^ x.log2 ≤ x := Nat.log2_self_le h
  have h2 : x < 2 ^ (x.log2 + 1) := Nat.lt_log2_self
  rw [Nat.testBit_eq_decide_div_mod_eq]
  have h3 : x / 2 ^ x.log2 = 1 := by
    apply Nat.div_eq_of_lt_le
    · omega
    · rw [Nat.pow_succ] at h2; omega
  rw [h3]
  rfl
theorem above_top {x j : Nat} (h : x.log2 < j) : x.testBit j = false := by
  refine Nat.testBit_lt_two_pow (Nat.lt_of_lt_of_le (Nat.lt_log2_self (n := x)) (Nat.pow_le_pow_right (by decide) h))
theorem lt_of_bits {x y i : Nat} (hx : x.testBit i = false) (hy : y.testBit i = true) (h : ∀ j, i < j → x.testBit j = y.testBit j) : x < y := by
  have e : x / 2 ^ (i + 1) = y / 2 ^ (i + 1) := Nat.eq_of_testBit_eq fun j => by
    rw [Nat.testBit_div_two_pow, Nat.testBit_div_two_pow]
    exact h _ (by omega)
  rw [Nat.testBit_eq_decide_div_mod_eq] at hx hy
  have hx := of_decide_eq_false hx
  have hy := of_decide_eq_true hy
  have ex : x / 2 ^ i / 2 = x / 2 ^ (i + 1) := by rw [Nat.div_div_eq_div_mul, Nat.pow_succ]
  have ey : y / 2 ^ i / 2 = y / 2 ^ (i + 1) := by rw [Nat.div_div_eq_div_mul, Nat.pow_succ]
  rcases Nat.lt_or_ge x y with q | q
  · exact q
  · have := Nat.div_le_div_right (c := 2 ^ i) q
    omega
theorem min_clear {s x : Nat} (h : x ≠ 0) : (min s (s ^^^ x)).testBit x.log2 = false ∧ (min s (s ^^^ x) = s ∨ min s (s ^^^ x) = s ^^^ x) := by
  have hx := top_bit h
  cases hs : s.testBit x.log2 with
  | true =>
    have lt : s ^^^ x < s := lt_of_bits (i := x.log2) (by rw [Nat.testBit_xor, hs, hx]; rfl) hs fun j hj => by rw [Nat.testBit_xor, above_top hj]; simp
    have e : min s (s ^^^ x) = s ^^^ x := Nat.min_eq_right (Nat.le_of_lt lt)
    exact ⟨by rw [e, Nat.testBit_xor, hs, hx]; rfl, .inr e⟩
  | false =>
    have lt : s < s ^^^ x := lt_of_bits (i := x.log2) hs (by rw [Nat.testBit_xor, hs, hx]; rfl) fun j hj => by rw [Nat.testBit_xor, above_top hj]; simp
    have e : min s (s ^^^ x) = s := Nat.min_eq_left (Nat.le_of_lt lt)
    exact ⟨by rw [e]; exact hs, .inl e⟩
def cnt (K : List Nat) (s : Nat) : Nat := K.foldl (fun s o => min s (s ^^^ o)) s
def tops (K : List Nat) : List (Nat × Nat) := K.map fun x => (x.log2, x)
theorem tops_snd (K : List Nat) : (tops K).map (·.2) = K := by
  unfold tops
  rw [List.map_map]
  exact List.map_id K
theorem cnt_keep {t : Nat} : ∀ (K : List Nat) (s : Nat), (∀ x ∈ K, x.testBit t = false) → (∀ x ∈ K, x ≠ 0) → s.testBit t = false → (cnt K s).testBit t = false
  | [], s, _, _, h => h
  | x :: K, s, q, z, h => by
    refine cnt_keep K (min s (s ^^^ x)) (fun y hy => q y (List.mem_cons_of_mem _ hy)) (fun y hy => z y (List.mem_cons_of_mem _ hy)) ?_
    rcases (min_clear (s := s) (z x List.mem_cons_self)).2 with e | e
    · rw [e]; exact h
    · rw [e, Nat.testBit_xor, h, q x List.mem_cons_self]; rfl
theorem cnt_spec : ∀ (K : List Nat) (s : Nat), Ech (tops K) → (∀ x ∈ K, x ≠ 0) → (∀ p ∈ tops K, (cnt K s).testBit p.1 = false) ∧ Span K (s ^^^ cnt K s)
  | [], s, _, _ => ⟨by simp [tops], by show Span [] (s ^^^ s); rw [Nat.xor_self]; exact .nil⟩
  | x :: K, s, e, z => by
    obtain ⟨e1, e2, e3⟩ := e
    have z' := fun y hy => z y (List.mem_cons_of_mem x hy)
    obtain ⟨r1, r2⟩ := cnt_spec K (min s (s ^^^ x)) e3 z'
    obtain ⟨c1, c2⟩ := min_clear (s := s) (z x List.mem_cons_self)
    refine ⟨fun p hp => ?_, ?_⟩
    · rcases List.mem_cons.mp hp with rfl | hp
      · refine cnt_keep K _ (fun y hy => ?_) z' c1
        exact e2 (y.log2, y) (List.mem_map.mpr ⟨y, hy, rfl⟩)
      · exact r1 p hp
    · show Span (x :: K) (s ^^^ cnt K (min s (s ^^^ x)))
      rcases c2 with c2 | c2
      · rw [c2] at r2 ⊢
        exact .out r2
      · rw [c2] at r2 ⊢
        have : s ^^^ cnt K (s ^^^ x) = x ^^^ (s ^^^ x ^^^ cnt K (s ^^^ x)) := by
          rw [← Nat.xor_assoc, ← Nat.xor_assoc, Nat.xor_comm x s, Nat.xor_assoc s x x, Nat.xor_self, Nat.xor_zero]
        rw [this]
        exact .inn r2
/-- the kept masks of the law's own count -/
structure Kept (K ms : List Nat) : Prop where
  nz : ∀ x ∈ K, x ≠ 0
  bas : Basis (tops K) ms
theorem Kept.step {K ms : List Nat} {m : Nat} (h : Kept K ms) : (cnt K m = 0 → Kept K (ms ++ [m])) ∧ (cnt K m ≠ 0 → Kept (K ++ [cnt K m]) (ms ++ [m])) := by
  obtain ⟨h1, h2⟩ := cnt_spec K m h.bas.ech h.nz
  refine ⟨fun hz => ⟨h.nz, h.bas.same ?_⟩, fun hz => ⟨fun x hx => ?_, ?_⟩⟩
  · rw [tops_snd]
    rwa [hz, Nat.xor_zero] at h2
  · rcases List.mem_append.mp hx with hx | hx
    · exact h.nz x hx
    · rw [List.mem_singleton.mp hx]; exact hz
  · have := h.bas.more (m := m) h1 (top_bit hz) (by rw [tops_snd]; exact h2)
    unfold tops at this ⊢
    rw [List.map_append]
    exact this
def keep (K : List Nat) : List Nat → List Nat
  | [] => K
  | m :: ms => keep (match cnt K m with
    | 0 => K
    | x => K ++ [x]) ms
end Gf
namespace PG
open DN Gf
open L2 (Key)
open PySem (PyData Str)
theorem len_app {α : Type} {ms d : List α} {x : α} {t : List α} (h : ms = d ++ x :: t) : d.length < ms.length := by
  rw [h]; simp
theorem cnt_snoc (K : List Nat) (s x : Nat) : cnt (K ++ [x]) s = min (cnt K s) (cnt K s ^^^ x) := by
  unfold cnt
  rw [List.foldl_append]
  rfl
theorem two_pow_lt {b : Nat} (h : b ≤ 399) : 2 ^ b < 2 ^ 400 := Nat.pow_lt_pow_right (by decide) (by omega)
theorem small_lt {n : Nat} (h : n < 2 ^ 60) : n < 2 ^ 400 := Nat.lt_trans h (Nat.pow_lt_pow_right (by decide) (by decide))
theorem p_draw' {m n : Nat} {s : D} (h : Src m s) (hm : m < 10 ^ 9) (hn : 0 < n) (hl : n < 2 ^ 60) : ∃ (s' : D) (r : Nat), d__law_draw [s, iN n] = .ok [s'] (.fz (iN r)) ∧ Src (m + 1) s' ∧ r < n := p_draw h hm hn (small_lt hl)
theorem p_drawB {m b : Nat} {s : D} (h : Src m s) (hm : m < 10 ^ 9) (hb : b ≤ 399) : ∃ (s' : D) (r : Nat), d__law_draw [s, iN (2 ^ b)] = .ok [s'] (.fz (iN r)) ∧ Src (m + 1) s' ∧ r < 2 ^ b := p_draw h hm (Nat.two_pow_pos b) (two_pow_lt hb)
theorem erase_perm {α : Type} : ∀ (l : List α) (i : Nat) (h : i < l.length), l.Perm (l[i] :: l.eraseIdx i)
  | x :: l, 0, _ => List.Perm.refl _
  | x :: l, i + 1, h => by
    have := erase_perm l i (by simpa using h)
    exact (this.cons x).trans (List.Perm.swap _ _ _)
theorem map_erase {α β : Type} (f : α → β) : ∀ (l : List α) (i : Nat), (l.map f).eraseIdx i = (l.eraseIdx i).map f
  | [], _ => rfl
  | x :: l, 0 => rfl
  | x :: l, i + 1 => by
    rw [List.map_cons, List.eraseIdx_cons_succ, List.eraseIdx_cons_succ, List.map_cons, map_erase f l i]
theorem gPop1_map {α : Type} (f : α → D) {xs : List α} {i : Nat} (h : i < xs.length) (h2 : i < 1000000) : gPop1 (.lst (xs.map f)) [iN i] = some (.lst ((xs.eraseIdx i).map f), f xs[i]) := by
  rw [gPop1_N (by simpa using h) h2, map_erase, List.getElem_map]
theorem len_erase {α : Type} {l : List α} {i : Nat} (h : i < l.length) : (l.eraseIdx i).length + 1 = l.length := by
  rw [List.length_eraseIdx, if_pos h]
  omega
theorem mixed_perm {α : Type} {xs as bs : List α} {r : Nat} (pm : xs.Perm (as ++ bs)) (h : r < as.length) : xs.Perm (as.eraseIdx r ++ (bs ++ [as[r]])) := by
  have hp := erase_perm as r h
  refine pm.trans ((hp.append_right bs).trans ?_)
  rw [List.cons_append, ← List.append_assoc]
  exact List.perm_append_comm (l₁ := [as[r]])
theorem p_mixed {α : Type} (f : α → D) (hf : ∀ xs : List α, gNe2 (.lst (xs.map f)) (.lst []) = some (.fz (.bl (!xs.isEmpty)))) {m : Nat} {s : D} {xs : List α} (hs : Src m s) (hm : m < 10 ^ 7) (hl : xs.length ≤ 1000) :
    ∃ (s' : D) (ys : List α), d__law_mixed [s, .lst (xs.map f)] = .ok [s'] (.own (.lst (ys.map f))) ∧ Src (m + xs.length) s' ∧ xs.Perm ys := by
  obtain ⟨ρ', e, s', ys, rfl, q, pm⟩ := while_fuel (c := x__law_mixed_1) (b := x__law_mixed_2)
    (fun n ρ => ∃ (s : D) (as bs : List α), ρ = [.own s, .ln (.lst (xs.map f)), .own (.lst (as.map f)), .own (.lst (bs.map f))] ∧ Src (m + bs.length) s ∧ xs.Perm (as ++ bs) ∧ n = as.length)
    (fun ρ => ∃ (s : D) (bs : List α), ρ = [.own s, .ln (.lst (xs.map f)), .own (.lst []), .own (.lst (bs.map f))] ∧ Src (m + bs.length) s ∧ xs.Perm bs)
    (n := xs.length) (ρ := [.own s, .ln (.lst (xs.map f)), .own (.lst (xs.map f)), .own (.lst [])]) (by omega) ⟨s, xs, [], rfl, hs, by simp, rfl⟩ (by
    rintro n ρ ⟨s, as, bs, rfl, hs, pm, rfl⟩
    have hle := pm.length_eq
    rw [List.length_append] at hle
    have h1 := hf as
    by_cases h0 : as = []
    · subst h0
      simp at h1
      simp [x__law_mixed_1, h1]
      exact ⟨s, bs, ⟨rfl, rfl⟩, hs, by simpa using pm⟩
    · have hpos : 0 < as.length := List.length_pos_iff.mpr h0
      have h2 : as.isEmpty = false := by simpa using h0
      rw [h2] at h1
      obtain ⟨s', r, e1, q1, l1⟩ := p_draw' hs (by omega) hpos (by omega)
      have l3 : bs.length ≤ 100000 := by omega
      have e4 := gPop1_map f l1 (by omega)
      simp [x__law_mixed_1, h1, x__law_mixed_2, e1, e4, l3, -gPop1_N]
      have := len_erase l1
      exact ⟨_, by omega, s', as.eraseIdx r, bs ++ [as[r]], ⟨rfl, rfl, by simp⟩, q1.mono (by simp; omega), mixed_perm pm l1, rfl⟩)
  have hp := pm.length_eq
  refine ⟨s', ys, ?_, q.mono (by omega), pm⟩
  simp [d__law_mixed, b__law_mixed, e]
theorem isE {α : Type} [DecidableEq α] (xs : List α) : (!decide (xs = [])) = !xs.isEmpty := by cases xs <;> simp
theorem p_mixedN {m : Nat} {s : D} {xs : List Nat} (hs : Src m s) (hm : m < 10 ^ 7) (hl : xs.length ≤ 1000) :
    ∃ (s' : D) (ys : List Nat), d__law_mixed [s, .lst (xs.map iN)] = .ok [s'] (.own (.lst (ys.map iN))) ∧ Src (m + xs.length) s' ∧ xs.Perm ys := p_mixed iN (fun xs => by rw [gNe2_N0, isE]) hs hm hl
end PG
namespace Gf
theorem halfI {P : Nat → Prop} (h0 : P 0) (h : ∀ n, 0 < n → P (n / 2) → P n) : ∀ n, P n := fun n => by
  induction n using Nat.strongRecOn with
  | ind n ih =>
    by_cases e : n = 0
    · subst e; exact h0
    · exact h n (by omega) (ih _ (by omega))
def pcB : Nat → Nat → Nat
  | 0, _ => 0
  | k + 1, n => n % 2 + pcB k (n / 2)
/-- how many bits are 1 -/
def pc (n : Nat) : Nat := pcB (n.log2 + 1) n
theorem pcB_same : ∀ {k n : Nat}, n < 2 ^ k → pcB (k + 1) n = pcB k n
  | 0, n, h => by
    have : n = 0 := by simpa using h
    subst this; rfl
  | k + 1, n, h => by
    rw [pcB, pcB_same (k := k) (n := n / 2) (by rw [Nat.pow_succ] at h; omega), pcB]
theorem pcB_more {k n : Nat} (h : n < 2 ^ k) : ∀ j, pcB (k + j) n = pcB k n
  | 0 => rfl
  | j + 1 => by
    rw [← Nat.add_assoc, pcB_same (Nat.lt_of_lt_of_le h (Nat.pow_le_pow_right (by decide) (Nat.le_add_right k j))), pcB_more h j]
theorem pc_eq {k n : Nat} (h : n < 2 ^ k) : pc n = pcB k n := by
  unfold pc
  have h1 : n < 2 ^ (n.log2 + 1) := Nat.lt_log2_self
  rcases Nat.le_total k (n.log2 + 1) with q | q
  · obtain ⟨j, e⟩ := Nat.exists_eq_add_of_le q
    rw [e, pcB_more h]
  · obtain ⟨j, e⟩ := Nat.exists_eq_add_of_le q
    rw [e, pcB_more h1]
theorem lt_pow_self (n : Nat) : n < 2 ^ n := Nat.lt_two_pow_self
theorem pc_zero : pc 0 = 0 := rfl
theorem pc_half (n : Nat) : pc n = n % 2 + pc (n / 2) := by
  have h : n < 2 ^ (n + 1) := Nat.lt_of_lt_of_le (lt_pow_self n) (Nat.pow_le_pow_right (by decide) (Nat.le_succ n))
  rw [pc_eq h, pcB, pc_eq (k := n) (n := n / 2) (by rw [Nat.pow_succ] at h; omega)]
theorem pc_le {k n : Nat} (h : n < 2 ^ k) : pc n ≤ k := by
  rw [pc_eq h]
  clear h
  induction k generalizing n with
  | zero => exact Nat.le_refl _
  | succ k ih =>
    have := ih (n := n / 2)
    rw [pcB]
    omega
theorem mod2_and' (a b : Nat) : ((a &&& b) % 2 = 1) ↔ (a % 2 = 1 ∧ b % 2 = 1) := by
  have := Nat.testBit_and a b 0
  rw [Nat.testBit_zero, Nat.testBit_zero, Nat.testBit_zero, ← Bool.decide_and, decide_eq_decide] at this
  exact this
theorem mod2_xor' (a b : Nat) : (a ^^^ b) % 2 = (a % 2 + b % 2) % 2 := by
  have h1 := Nat.mod_two_eq_zero_or_one a
  have h2 := Nat.mod_two_eq_zero_or_one b
  have h3 : (a ^^^ b).testBit 0 = (a.testBit 0 ^^ b.testBit 0) := Nat.testBit_xor a b 0
  simp only [Nat.testBit_zero] at h3
  have h4 := Nat.mod_two_eq_zero_or_one (a ^^^ b)
  rcases h1 with h1 | h1 <;> rcases h2 with h2 | h2 <;> rcases h4 with h4 | h4 <;> simp_all
theorem pc_low : ∀ n, 0 < n → pc (n &&& (n - 1)) + 1 = pc n := by
  intro n
  induction n using halfI with
  | h0 => intro h; omega
  | h n _ ih =>
    intro hn
    have e1 : (n &&& (n - 1)) / 2 = n / 2 &&& (n - 1) / 2 := Nat.and_div_two
    have t2 := mod2_and' n (n - 1)
    rw [pc_half (n &&& (n - 1)), pc_half n, e1]
    rcases Nat.mod_two_eq_zero_or_one n with h | h
    · have e2 : (n - 1) / 2 = n / 2 - 1 := by omega
      have := ih (by omega)
      rw [e2]
      omega
    · have e2 : (n - 1) / 2 = n / 2 := by omega
      rw [e2, Nat.and_self]
      omega
theorem pc_xor (a : Nat) : ∀ b : Nat, pc (a ^^^ b) % 2 = (pc a + pc b) % 2 := by
  induction a using halfI with
  | h0 => intro b; rw [Nat.zero_xor, pc_zero, Nat.zero_add]
  | h a _ ih =>
    intro b
    have e1 : (a ^^^ b) / 2 = a / 2 ^^^ b / 2 := Nat.xor_div_two
    have e3 := mod2_xor' a b
    have q := ih (b / 2)
    rw [pc_half (a ^^^ b), pc_half a, pc_half b, e1]
    omega
/-- an odd number of bits is 1 -/
def par (n : Nat) : Bool := decide (pc n % 2 = 1)
theorem par_zero : par 0 = false := rfl
theorem par_xor (a b : Nat) : par (a ^^^ b) = (par a ^^ par b) := by
  unfold par
  have := pc_xor a b
  have h1 := Nat.mod_two_eq_zero_or_one (pc a)
  have h2 := Nat.mod_two_eq_zero_or_one (pc b)
  rcases h1 with h1 | h1 <;> rcases h2 with h2 | h2 <;> rw [Nat.add_mod, h1, h2] at this <;> simp [this, h1, h2]
theorem par_half (n : Nat) : par n = (n.testBit 0 ^^ par (n / 2)) := by
  unfold par
  rw [pc_half, Nat.testBit_zero]
  have h1 := Nat.mod_two_eq_zero_or_one n
  have h2 := Nat.mod_two_eq_zero_or_one (pc (n / 2))
  rcases h1 with h1 | h1 <;> rcases h2 with h2 | h2 <;> rw [Nat.add_mod, h1, h2] <;> simp
theorem par_low {n : Nat} (h : 0 < n) : par n = !par (n &&& (n - 1)) := by
  have := pc_low n h
  unfold par
  rcases Nat.mod_two_eq_zero_or_one (pc (n &&& (n - 1))) with h1 | h1
  · have : pc n % 2 = 1 := by omega
    simp [this, h1]
  · have : pc n % 2 = 0 := by omega
    simp [this, h1]
theorem par_shl (k n : Nat) : par (n * 2 ^ k) = par n := by
  induction k with
  | zero => rw [Nat.pow_zero, Nat.mul_one]
  | succ k ih =>
    rw [par_half, Nat.testBit_zero, Nat.pow_succ, ← Nat.mul_assoc, Nat.mul_div_cancel _ (by decide), ih]
    simp
theorem par_pow (k : Nat) : par (2 ^ k) = true := by
  have := par_shl k 1
  rw [Nat.one_mul] at this
  rw [this]; rfl
theorem par_mod2 (n : Nat) : par (n % 2) = n.testBit 0 := by
  rw [Nat.testBit_zero]
  rcases Nat.mod_two_eq_zero_or_one n with h | h <;> rw [h] <;> rfl
/-- low half and high half put together -/
theorem par_fold {h n : Nat} (hn : n < 2 ^ (2 * h)) : par n = par ((n ^^^ n >>> h) % 2 ^ h) := by
  have e0 : n = (n / 2 ^ h) * 2 ^ h ^^^ n % 2 ^ h := by
    refine Nat.eq_of_testBit_eq fun j => ?_
    rw [Nat.testBit_xor, Nat.testBit_mod_two_pow, Nat.testBit_mul_two_pow, Nat.testBit_div_two_pow]
    by_cases hj : h ≤ j
    · have : ¬ j < h := by omega
      simp [hj, this]
    · have : j < h := by omega
      simp [hj, this]
  have e1 : (n ^^^ n >>> h) % 2 ^ h = n % 2 ^ h ^^^ n / 2 ^ h := by
    refine Nat.eq_of_testBit_eq fun j => ?_
    rw [Nat.testBit_mod_two_pow, Nat.testBit_xor, Nat.testBit_xor, Nat.testBit_mod_two_pow, Nat.testBit_shiftRight, Nat.testBit_div_two_pow]
    by_cases hj : j < h
    · simp [hj, Nat.add_comm]
    · have : n.testBit (j + h) = false := Nat.testBit_lt_two_pow (Nat.lt_of_lt_of_le hn (Nat.pow_le_pow_right (by decide) (by omega)))
      simp [hj, this]
  rw [e1, par_xor]
  have e2 : par n = par ((n / 2 ^ h) * 2 ^ h ^^^ n % 2 ^ h) := by rw [← e0]
  rw [e2, par_xor, par_shl, Bool.xor_comm]
theorem mod_fold {h n : Nat} : ((n % 2 ^ (2 * h)) ^^^ (n % 2 ^ (2 * h)) >>> h) % 2 ^ h = (n ^^^ n >>> h) % 2 ^ h := by
  refine Nat.eq_of_testBit_eq fun j => ?_
  rw [Nat.testBit_mod_two_pow, Nat.testBit_mod_two_pow, Nat.testBit_xor, Nat.testBit_xor, Nat.testBit_shiftRight, Nat.testBit_shiftRight, Nat.testBit_mod_two_pow, Nat.testBit_mod_two_pow]
  by_cases hj : j < h
  · have h1 : j < 2 * h := by omega
    have h2 : h + j < 2 * h := by omega
    simp [hj, h1, h2]
  · simp [hj]
theorem par_step {h n : Nat} : par (n % 2 ^ (2 * h)) = par ((n ^^^ n >>> h) % 2 ^ h) := by
  rw [par_fold (h := h) (n := n % 2 ^ (2 * h)) (Nat.mod_lt _ (Nat.two_pow_pos _)), mod_fold]
/-- the way of the program: halves put together -/
def foldP (n h : Nat) : Nat := n ^^^ n >>> h
theorem par_folds {n : Nat} (hn : n < 2 ^ 128) : (foldP (foldP (foldP (foldP (foldP (foldP (foldP n 64) 32) 16) 8) 4) 2) 1).testBit 0 = par n := by
  have e0 : par n = par (n % 2 ^ (2 * 64)) := by rw [Nat.mod_eq_of_lt (by simpa using hn)]
  rw [e0, par_step (h := 64), show (64 : Nat) = 2 * 32 from rfl, par_step (h := 32), show (32 : Nat) = 2 * 16 from rfl, par_step (h := 16), show (16 : Nat) = 2 * 8 from rfl, par_step (h := 8), show (8 : Nat) = 2 * 4 from rfl, par_step (h := 4), show (4 : Nat) = 2 * 2 from rfl, par_step (h := 2)]
  have := par_step (h := 1) (n := (foldP (foldP (foldP (foldP (foldP (foldP n 64) 32) 16) 8) 4) 2))
  rw [Nat.pow_one, par_mod2] at this
  exact this.symm
/-- the parity of what two masks share is linear -/
theorem par_and_xor (a b c : Nat) : par (a &&& (b ^^^ c)) = (par (a &&& b) ^^ par (a &&& c)) := by
  rw [Nat.and_xor_distrib_left, par_xor]
theorem par_xor_and (a b c : Nat) : par ((a ^^^ b) &&& c) = (par (a &&& c) ^^ par (b &&& c)) := by
  rw [Nat.and_xor_distrib_right, par_xor]
theorem and_pow (a i : Nat) : a &&& 2 ^ i = if a.testBit i = true then 2 ^ i else 0 := by
  refine Nat.eq_of_testBit_eq fun j => ?_
  rw [Nat.testBit_and, Nat.testBit_two_pow]
  by_cases h : i = j
  · subst h
    cases e : a.testBit i <;> simp [Nat.testBit_two_pow]
  · cases e : a.testBit i <;> simp [h, Nat.testBit_two_pow]
theorem par_and_pow (a i : Nat) : par (a &&& 2 ^ i) = a.testBit i := by
  rw [and_pow]
  cases a.testBit i
  · rfl
  · simp [par_pow]
end Gf
namespace PG
open DN Gf
open L2 (Key)
open PySem (PyData Str)
theorem toNat_xor (a b : Bool) : a.toNat ^^^ b.toNat = (a ^^ b).toNat := by cases a <;> cases b <;> rfl
theorem p_parity {n : Nat} (hn : n < 2 ^ 128) : d_parity [iN n] = .ok [] (.fz (iN (par n).toNat)) := by
  have e := par_folds hn
  obtain ⟨ρ', el, x, rfl⟩ := loop_l (g := store 2) (b := x_parity_1) iN (fun d ρ => ∃ x, ρ = [.fz (iN n), .fz (iN (d.foldl foldP n)), x]) (xs := [64, 32, 16, 8, 4, 2, 1]) (ρ := [.fz (iN n), .fz (iN n), .un]) ⟨_, rfl⟩ (by
    rintro d h t ρ hx ⟨x, rfl⟩
    rw [List.foldl_append]
    generalize d.foldl foldP n = z
    simp [x_parity_1, foldP])
  have el' : dLoop (store 2) x_parity_1 (fzs [iN 64, iN 32, iN 16, iN 8, iN 4, iN 2, iN 1]) [.fz (iN n), .fz (iN n), .un] = _ := el
  rw [← e]
  simp only [List.foldl_cons, List.foldl_nil] at el'
  generalize foldP (foldP (foldP (foldP (foldP (foldP (foldP n 64) 32) 16) 8) 4) 2) 1 = z at *
  have hz : z &&& 1 = (z.testBit 0).toNat := by
    rw [Nat.and_one_is_mod, Nat.testBit_zero]
    rcases Nat.mod_two_eq_zero_or_one z with h | h <;> rw [h] <;> rfl
  have hg : gAnd (iN z) (iN 1) = some (.fz (iN (z.testBit 0).toNat)) := by rw [gAnd_N, hz]
  simp [d_parity, b_parity, el', hg]
theorem p_odd {n : Nat} (hn : n < 2 ^ 1000) : d__law_odd [iN n] = .ok [] (.fz (iN (par n).toNat)) := by
  obtain ⟨ρ', e, x, rfl⟩ := while_fuel (c := x__law_odd_1) (b := x__law_odd_2)
    (fun k ρ => ∃ (s : Sl) (m : Nat) (b : Bool), ρ = [s, .fz (iN b.toNat)] ∧ (s = .ln (iN m) ∨ s = .fz (iN m)) ∧ pc m = k ∧ (b ^^ par m) = par n)
    (fun ρ => ∃ x, ρ = [x, .fz (iN (par n).toNat)]) (n := pc n) (ρ := [.ln (iN n), .fz (iN 0)]) (by have := pc_le hn; omega) ⟨_, n, false, rfl, .inl rfl, rfl, by simp⟩ (by
    rintro k ρ ⟨s, m, b, rfl, hs, rfl, hb⟩
    have go : ∀ s : Sl, (s = .ln (iN m) ∨ s = .fz (iN m)) → WGo (fun ρ1 => Goes (fun ρ2 => ∃ m_1, m_1 < pc m ∧ ∃ (s : Sl) (m : Nat) (b : Bool), ρ2 = [s, .fz (iN b.toNat)] ∧ (s = .ln (iN m) ∨ s = .fz (iN m)) ∧ pc m = m_1 ∧ (b ^^ par m) = par n) (x__law_odd_2 ρ1)) (fun ρ => ∃ x, ρ = [x, .fz (iN (par n).toNat)]) (x__law_odd_1 [s, .fz (iN b.toNat)]) := by
      intro s hs
      by_cases h0 : m = 0
      · subst h0
        rw [par_zero, Bool.xor_false] at hb
        subst hb
        rcases hs with rfl | rfl <;> simp [x__law_odd_1]
      · have hp := Nat.pos_of_ne_zero h0
        have h1 : 1 ≤ m := hp
        have h2 := pc_low m hp
        have h3 := par_low hp
        have h4 : gSub (iN 1) (iN b.toNat) = some (.fz (iN (!b).toNat)) := by cases b <;> rfl
        have fin : ∃ m_1, m_1 < pc m ∧ ∃ (s : Sl) (m' : Nat) (b' : Bool), ([.fz (iN (m &&& m - 1)), .fz (iN (!b).toNat)] : Env) = [s, .fz (iN b'.toNat)] ∧ (s = .ln (iN m') ∨ s = .fz (iN m')) ∧ pc m' = m_1 ∧ (b' ^^ par m') = par n :=
          ⟨pc (m &&& m - 1), by omega, _, _, !b, rfl, .inr rfl, rfl, by rw [← hb, h3]; cases b <;> cases par (m &&& m - 1) <;> rfl⟩
        have e1 : x__law_odd_1 [s, .fz (iN b.toNat)] = .ok [s, .fz (iN b.toNat)] true := by rcases hs with rfl | rfl <;> simp [x__law_odd_1, hp]
        have e2 : x__law_odd_2 [s, .fz (iN b.toNat)] = .ok [.fz (iN (m &&& m - 1)), .fz (iN (!b).toNat)] .nx := by rcases hs with rfl | rfl <;> simp [x__law_odd_2, h1, h4]
        rw [e1, wgo_t, e2, goes_nx]
        exact fin
    exact go s hs)
  simp [d__law_odd, b__law_odd, e]
/-- a stage of so many bits -/
def Stg (b : Nat) (t : Tri) : Prop := t.a < b ∧ t.b < 2 ^ b ∧ t.b.testBit t.a = false ∧ t.c ≤ 1
/-- where a stage moves the value of a place -/
def stg (t : Tri) (x : Nat) : Nat := x ^^^ (par (t.b &&& x) ^^ decide (t.c = 1)).toNat * 2 ^ t.a
/-- where a run moves it -/
def runs (ts : List Tri) (x : Nat) : Nat := ts.foldl (fun x t => stg t x) x
theorem bool_le (b : Bool) : b.toNat ≤ 1 := Bool.toNat_le b
theorem bit_lt {b i : Nat} (h : i < b) (c : Bool) : c.toNat * 2 ^ i < 2 ^ b := by
  have h1 : 2 ^ i < 2 ^ b := Nat.pow_lt_pow_right (by decide) h
  cases c
  · simp [Nat.two_pow_pos]
  · simpa using h1
theorem stg_lt {b : Nat} {t : Tri} {x : Nat} (ht : Stg b t) (hx : x < 2 ^ b) : stg t x < 2 ^ b := Nat.xor_lt_two_pow hx (bit_lt ht.1 _)
theorem p_fits {b : Nat} {t : Tri} (h1 : 1 ≤ b) (hb : b ≤ 99) (ht : Stg b t) : d_fits [iN b, tri t] = .ok [] (.fz (.bl true)) := by
  obtain ⟨q1, q2, q3, q4⟩ := ht
  have h5 : t.a ≤ b - 1 := by omega
  simp [d_fits, b_fits, tri, p_is_integer, p_is_place hb, h1, h5, q2, q4, q3]
theorem p_run_fault {b : Nat} {ts : List Tri} (h1 : 1 ≤ b) (hb : b ≤ 99) (hl : ts.length ≤ 400) (ht : ∀ t ∈ ts, Stg b t) : d_run_fault [iN b, .lst (ts.map tri)] = .ok [] (.tp []) := by
  obtain ⟨ρ', e, x, y, rfl⟩ := loop_e (g := storeN [2, 3]) (b := x_run_fault_1) tri (fun _ ρ => ∃ x y, ρ = [.ln (iN b), .ln (.lst (ts.map tri)), x, y]) (xs := ts) (ρ := [.ln (iN b), .ln (.lst (ts.map tri)), .un, .un]) ⟨_, _, rfl⟩ (by
    rintro d t u ρ hx ⟨x, y, rfl⟩
    simp [x_run_fault_1, p_fits h1 hb (ht t (by rw [hx]; simp))])
  have hl' : ¬ 400 < ts.length := by omega
  simp [d_run_fault, b_run_fault, e, hl']
theorem gNe2_tup0 : gNe2 (.tup []) (.tup []) = some (.fz (.bl false)) := by rfl
theorem p_need_run {b : Nat} {ts : List Tri} (h1 : 1 ≤ b) (hb : b ≤ 99) (hl : ts.length ≤ 400) (ht : ∀ t ∈ ts, Stg b t) : d_need_run [iN b, .lst (ts.map tri)] = .ok [] (.fz .non) := by
  simp [d_need_run, b_need_run, p_run_fault h1 hb hl ht, gNe2_tup0]
theorem p_need_both_k17 {b : Nat} {ts : List Tri} (h1 : 1 ≤ b) (hb : b ≤ 60) (hl : ts.length ≤ 400) (ht : ∀ t ∈ ts, Stg b t) : d_need_both_k17 [iN b, .lst (ts.map tri)] = .ok [] (.fz .non) := by
  simp [d_need_both_k17, b_need_both_k17, p_need_bits h1 hb, p_need_run (b := b) (ts := ts) h1 (by omega) hl ht]
theorem lt_128 {x b : Nat} (h : x < 2 ^ b) (hb : b ≤ 128) : x < 2 ^ 128 := Nat.lt_of_lt_of_le h (Nat.pow_le_pow_right (by decide) hb)
theorem andN_lt {a b n : Nat} (h : a < 2 ^ n) : andN a b < 2 ^ n := by
  have := andN_add a b
  omega
theorem andN_bit (a i : Nat) : (andN a (2 ^ i)).testBit i = false := by
  rw [testBit_andN, Nat.testBit_two_pow]
  simp
theorem p_some_stage {m b : Nat} {s : D} (h1 : 1 ≤ b) (hb : b ≤ 399) (hs : Src m s) (hm : m < 10 ^ 8) : ∃ s' t, d__law_some_stage [s, iN b] = .ok [s'] (.tp [.fz (iN t.a), .fz (iN t.b), .fz (iN t.c)]) ∧ Src (m + 6) s' ∧ Stg b t := by
  obtain ⟨s1, at', e1, q1, l1⟩ := p_draw' hs (by omega) (show 0 < b by omega) (by omega)
  obtain ⟨s2, way, e2, q2, l2⟩ := p_draw' q1 (by omega) (show 0 < 6 by decide) (by decide)
  have hb' : b ≤ 100000 := by omega
  have ha' : at' ≤ 100000 := by omega
  by_cases hw : way = 0
  · subst hw
    obtain ⟨s3, c, e3, q3, l3⟩ := p_draw' q2 (by omega) (show 0 < 2 by decide) (by decide)
    refine ⟨s3, ⟨at', 0, c⟩, ?_, q3.mono (by omega), l1, Nat.two_pow_pos b, Nat.zero_testBit _, by show c ≤ 1; omega⟩
    simp [d__law_some_stage, b__law_some_stage, e1, e2, e3]
  · obtain ⟨s3, v, e3, q3, l3⟩ := p_drawB q2 (by omega) hb
    by_cases hw4 : way < 4
    · obtain ⟨s4, i, e4, q4, l4⟩ := p_draw' q3 (by omega) (show 0 < b by omega) (by omega)
      obtain ⟨s5, j, e5, q5, l5⟩ := p_draw' q4 (by omega) (show 0 < b by omega) (by omega)
      obtain ⟨s6, c, e6, q6, l6⟩ := p_draw' q5 (by omega) (show 0 < 3 by decide) (by decide)
      have k2 : i ≤ 100000 := by omega
      have k3 : j ≤ 100000 := by omega
      refine ⟨s6, ⟨at', andN (2 ^ i ||| 2 ^ j) (2 ^ at'), (decide (c = 0)).toNat⟩, ?_, q6.mono (by omega), l1, andN_lt (Nat.or_lt_two_pow (Nat.pow_lt_pow_right (by decide) l4) (Nat.pow_lt_pow_right (by decide) l5)), andN_bit _ _, bool_le _⟩
      simp [d__law_some_stage, b__law_some_stage, e1, e2, hw, hb', e3, hw4, e4, e5, e6, k2, k3, ha']
    · obtain ⟨s6, c, e6, q6, l6⟩ := p_draw' q3 (by omega) (show 0 < 3 by decide) (by decide)
      refine ⟨s6, ⟨at', andN v (2 ^ at'), (decide (c = 0)).toNat⟩, ?_, q6.mono (by omega), l1, andN_lt l3, andN_bit _ _, bool_le _⟩
      simp [d__law_some_stage, b__law_some_stage, e1, e2, hw, hb', e3, hw4, e6, ha']
theorem p_path {m b k : Nat} {s : D} (h1 : 1 ≤ b) (hb : b ≤ 399) (hk : k ≤ 1000) (hs : Src m s) (hm : m < 10 ^ 7) : ∃ (s' : D) (ts : List Tri), d__law_path [s, iN b, iN k] = .ok [s'] (.own (.lst (ts.map tri))) ∧ Src (m + 6 * k) s' ∧ ts.length = k ∧ ∀ t ∈ ts, Stg b t := by
  obtain ⟨ρ', ds, e, s', ts, rfl, rfl, q, hl, ht⟩ := lc_st (g := store 3) (t := dYes) (f := x__law_path_1) (vs := [3]) iN (fun d ρ acc => ∃ (s : D) (ts : List Tri), ρ = [.own s, .ln (iN b), .ln (iN k), .un] ∧ acc = ts.map tri ∧ Src (m + 6 * d.length) s ∧ (ts.length = d.length ∧ d.length ≤ k) ∧ ∀ t ∈ ts, Stg b t)
    (xs := List.range k) (ρ := [.own s, .ln (iN b), .ln (iN k), .un]) ⟨s, [], rfl, rfl, hs.mono (by omega), ⟨rfl, Nat.zero_le _⟩, fun t ht => (nomatch ht)⟩ (by
    rintro d ρ acc ⟨s, ts, rfl, rfl, q, hl, ht⟩
    rw [List.length_map]
    omega) (by
    rintro d i u ρ acc hx ⟨s, ts, rfl, rfl, q, hl, ht⟩
    have hd := len_app hx
    rw [List.length_range] at hd
    obtain ⟨s', t, e, q', ht'⟩ := p_some_stage h1 hb q (by omega)
    simp [x__law_path_1, e]
    refine ⟨ts ++ [t], by simp [tri], q'.mono (by omega), ⟨by simp [hl.1], by omega⟩, fun u hu => ?_⟩
    rcases List.mem_append.mp hu with hu | hu
    · exact ht u hu
    · rw [List.mem_singleton.mp hu]; exact ht')
  rw [List.length_range] at q hl
  have hk' : k ≤ 1000000 := by omega
  refine ⟨s', ts, ?_, q, hl.1, ht⟩
  simp [d__law_path, b__law_path, hk', e]
end PG
namespace Gf
/-- for each row the parity of what it shares with a place -/
def vec : List Nat → Nat → Nat
  | [], _ => 0
  | r :: rs, x => (par (r &&& x)).toNat + 2 * vec rs x
theorem vec_half (r : Nat) (rs : List Nat) (x : Nat) : vec (r :: rs) x / 2 = vec rs x ∧ (vec (r :: rs) x).testBit 0 = par (r &&& x) := by
  rw [vec, Nat.testBit_zero]
  cases par (r &&& x)
  · exact ⟨by simp, by simp⟩
  · exact ⟨by simp <;> omega, by simp <;> omega⟩
theorem vec_bit : ∀ (rs : List Nat) (x i : Nat), (vec rs x).testBit i = (match rs[i]? with
    | some r => par (r &&& x)
    | none => false)
  | [], x, i => by rw [vec, Nat.zero_testBit]; rfl
  | r :: rs, x, 0 => by rw [(vec_half r rs x).2]; rfl
  | r :: rs, x, i + 1 => by
    rw [Nat.testBit_succ, (vec_half r rs x).1, vec_bit rs x i, List.getElem?_cons_succ]
theorem vec_bit' {rs : List Nat} {i : Nat} (x : Nat) (h : i < rs.length) : (vec rs x).testBit i = par (rs[i] &&& x) := by
  rw [vec_bit, List.getElem?_eq_getElem h]
theorem vec_lt : ∀ (rs : List Nat) (x : Nat), vec rs x < 2 ^ rs.length
  | [], _ => by simp [vec]
  | r :: rs, x => by
    have := vec_lt rs x
    have := Bool.toNat_le (par (r &&& x))
    rw [vec, List.length_cons, Nat.pow_succ]
    omega
theorem vec_xor (rs : List Nat) (x y : Nat) : vec rs (x ^^^ y) = vec rs x ^^^ vec rs y := by
  refine Nat.eq_of_testBit_eq fun i => ?_
  rw [Nat.testBit_xor, vec_bit, vec_bit, vec_bit]
  cases rs[i]? with
  | none => rfl
  | some r => exact par_and_xor r x y
theorem vec_zero : ∀ rs : List Nat, vec rs 0 = 0
  | [] => rfl
  | r :: rs => by rw [vec, vec_zero rs, Nat.and_zero]; rfl
/-- rows put together go along with places -/
theorem par_sel : ∀ (rs : List Nat) (p x : Nat), par (sel rs p &&& x) = par (p &&& vec rs x)
  | [], p, x => by rw [sel, vec, Nat.zero_and, Nat.and_zero]
  | r :: rs, p, x => by
    obtain ⟨h1, h2⟩ := vec_half r rs x
    rw [sel, par_xor_and, par_sel rs (p / 2) x, par_half (p &&& vec (r :: rs) x), Nat.and_div_two, h1, Nat.testBit_and, h2]
    congr 1
    cases p.testBit 0 <;> simp [par_zero]
theorem getD_set {rs : List Nat} {a i r : Nat} (h : a < rs.length) : (rs.set a r)[i]? = if i = a then some r else rs[i]? := by
  rw [List.getElem?_set]
  by_cases e : a = i
  · subst e; simp [h]
  · have : ¬ i = a := fun q => e q.symm
    simp [e, this]
theorem bit_one (c : Bool) (a i : Nat) : (c.toNat * 2 ^ a).testBit i = (c && decide (i = a)) := by
  cases c
  · simp
  · rw [Bool.toNat_true, Nat.one_mul, Nat.testBit_two_pow]
    simp [eq_comm]
theorem vec_set {rs : List Nat} {a : Nat} (r x : Nat) (h : a < rs.length) : vec (rs.set a r) x = vec rs x ^^^ (par (rs[a] &&& x) ^^ par (r &&& x)).toNat * 2 ^ a := by
  refine Nat.eq_of_testBit_eq fun i => ?_
  rw [Nat.testBit_xor, bit_one, vec_bit, vec_bit, getD_set h]
  by_cases e : i = a
  · subst e
    rw [List.getElem?_eq_getElem h]
    simp
  · simp [e]
/-- a mapping: its rows and its offset -/
abbrev Mp := List Nat × Nat
def app (m : Mp) (x : Nat) : Nat := m.2 ^^^ vec m.1 x
structure Map (b : Nat) (m : Mp) : Prop where
  len : m.1.length = b
  row : ∀ r ∈ m.1, r < 2 ^ b
  off : m.2 < 2 ^ b
  all : ∀ i, i < b → Span m.1 (2 ^ i)
theorem app_lt {b : Nat} {m : Mp} (h : Map b m) (x : Nat) : app m x < 2 ^ b := Nat.xor_lt_two_pow h.off (by rw [← h.len]; exact vec_lt _ _)
/-- all places are made of single bits -/
theorem span_pows {rs : List Nat} {b : Nat} (h : ∀ i, i < b → Span rs (2 ^ i)) : ∀ {x : Nat}, x < 2 ^ b → Span rs x := by
  induction b with
  | zero =>
    intro x hx
    have : x = 0 := by simpa using hx
    subst this
    exact Span.zero rs
  | succ b ih =>
    intro x hx
    have ih' := @ih fun i hi => h i (by omega)
    by_cases hb : x.testBit b = true
    · have h1 : x ^^^ 2 ^ b < 2 ^ b := by
        refine Nat.lt_pow_two_of_testBit _ fun i hi => ?_
        rw [Nat.testBit_xor, Nat.testBit_two_pow]
        by_cases e : b = i
        · subst e; simp [hb]
        · rw [Nat.testBit_lt_two_pow (Nat.lt_of_lt_of_le hx (Nat.pow_le_pow_right (by decide) (by omega)))]
          simp [e]
      have := (ih' h1).xor (h b (Nat.lt_succ_self b))
      rwa [xor_d] at this
    · refine ih' (Nat.lt_pow_two_of_testBit _ fun i hi => ?_)
      by_cases e : b = i
      · subst e; exact Bool.eq_false_iff.mpr hb
      · exact Nat.testBit_lt_two_pow (Nat.lt_of_lt_of_le hx (Nat.pow_le_pow_right (by decide) (by omega)))
theorem Map.span {b : Nat} {m : Mp} (h : Map b m) {x : Nat} (hx : x < 2 ^ b) : Span m.1 x := span_pows h.all hx
theorem Map.rk {b : Nat} {m : Mp} (h : Map b m) : rk m.1 = b := by
  have : Lists m.1 (List.range (2 ^ b)) := ⟨List.nodup_range, fun x => by
    rw [List.mem_range]
    exact ⟨fun q => h.span q, fun q => q.bound h.row⟩⟩
  have := this.length
  rw [List.length_range] at this
  exact ((Nat.pow_right_inj (a := 2) (by decide)).mp this).symm
/-- if no row is made of those ahead the rows make all -/
theorem Map.of_rk {b : Nat} {m : Mp} (len : m.1.length = b) (row : ∀ r ∈ m.1, r < 2 ^ b) (off : m.2 < 2 ^ b) (h : Gf.rk m.1 = b) : Map b m := by
  refine ⟨len, row, off, fun i hi => ?_⟩
  obtain ⟨S, h1, h2⟩ := lists_ex m.1
  rw [h] at h2
  have hb : ∀ x ∈ S, x < 2 ^ b := fun x hx => ((h1.2 x).mp hx).bound row
  have : 2 ^ i ∈ S := by
    refine Classical.byContradiction fun q => ?_
    have := nodup_le (n := 2 ^ b) (List.nodup_cons.mpr ⟨q, h1.1⟩) fun x hx => by
      rcases List.mem_cons.mp hx with rfl | hx
      · exact Nat.pow_lt_pow_right (by decide) hi
      · exact hb x hx
    rw [List.length_cons, h2] at this
    omega
  exact (h1.2 _).mp this
/-- rows with which each single bit is made -/
theorem Map.pick {b : Nat} {m : Mp} (h : Map b m) {x : Nat} (hx : x < 2 ^ b) : ∃ p, p < 2 ^ b ∧ sel m.1 p = x := by
  obtain ⟨p, h1, h2⟩ := span_sel (h.span hx)
  rw [h.len] at h1
  exact ⟨p, h1, h2⟩
theorem vec_inj {b : Nat} {m : Mp} (h : Map b m) {x : Nat} (hx : x < 2 ^ b) (e : vec m.1 x = 0) : x = 0 := by
  refine Nat.eq_of_testBit_eq fun i => ?_
  rw [Nat.zero_testBit]
  by_cases hi : i < b
  · obtain ⟨p, _, h2⟩ := h.pick (Nat.pow_lt_pow_right (a := 2) (by decide) hi)
    have := par_sel m.1 p x
    rw [h2, e, Nat.and_zero, par_zero, Nat.and_comm, par_and_pow] at this
    exact this
  · exact Nat.testBit_lt_two_pow (Nat.lt_of_lt_of_le hx (Nat.pow_le_pow_right (by decide) (by omega)))
/-- the mapping that leaves each place as it is -/
def idM (b : Nat) : Mp := ((List.range b).map fun i => 2 ^ i, 0)
theorem Map.id (b : Nat) : Map b (idM b) := by
  refine ⟨by simp [idM], fun r hr => ?_, Nat.two_pow_pos b, fun i hi => .mem ?_⟩
  · simp only [idM, List.mem_map, List.mem_range] at hr
    obtain ⟨i, hi, rfl⟩ := hr
    exact Nat.pow_lt_pow_right (by decide) hi
  · simp only [idM, List.mem_map, List.mem_range]
    exact ⟨i, hi, rfl⟩
theorem vec_pows (b x : Nat) : vec ((List.range b).map fun i => 2 ^ i) x = x % 2 ^ b := by
  refine Nat.eq_of_testBit_eq fun i => ?_
  rw [vec_bit, Nat.testBit_mod_two_pow, List.getElem?_map]
  by_cases hi : i < b
  · rw [List.getElem?_range hi]
    simp only [Option.map_some, Nat.and_comm (2 ^ i), par_and_pow, hi, decide_true, Bool.true_and]
  · rw [List.getElem?_eq_none (by simpa using hi)]
    simp [hi]
theorem app_id {b x : Nat} (hx : x < 2 ^ b) : app (idM b) x = x := by
  unfold app idM
  rw [vec_pows, Nat.mod_eq_of_lt hx, Nat.zero_xor]
theorem sel_set : ∀ {rs : List Nat} {a r p : Nat}, p.testBit a = false → sel (rs.set a r) p = sel rs p
  | [], _, _, _, _ => rfl
  | m :: rs, 0, r, p, h => by rw [List.set_cons_zero, sel, sel, h]; rfl
  | m :: rs, a + 1, r, p, h => by
    rw [List.set_cons_succ, sel, sel, sel_set (rs := rs) (by rwa [Nat.testBit_succ] at h)]
theorem mem_set_ne {rs : List Nat} {a i r : Nat} (h : i ≠ a) (hi : i < rs.length) : rs[i] ∈ rs.set a r := by
  refine List.mem_of_getElem? (i := i) ?_
  rw [List.getElem?_set]
  have : ¬ a = i := fun q => h q.symm
  simp [this, hi]
theorem span_set {rs : List Nat} {a p : Nat} (ha : a < rs.length) (hp : p.testBit a = false) (x : Nat) : Span rs x ↔ Span (rs.set a (rs[a] ^^^ sel rs p)) x := by
  constructor
  · intro h
    refine h.sub fun m hm => ?_
    obtain ⟨i, hi, rfl⟩ := List.getElem_of_mem hm
    by_cases e : i = a
    · subst e
      have h1 : Span (rs.set i (rs[i] ^^^ sel rs p)) (rs[i] ^^^ sel rs p) := .mem (List.mem_of_getElem? (i := i) (by rw [List.getElem?_set]; simp [hi]))
      have h2 := sel_span (rs.set i (rs[i] ^^^ sel rs p)) p
      rw [sel_set hp] at h2
      have := h1.xor h2
      rwa [xor_d] at this
    · exact .mem (mem_set_ne e hi)
  · intro h
    refine h.sub fun m hm => ?_
    rcases List.mem_or_eq_of_mem_set hm with hm | rfl
    · exact .mem hm
    · exact (Span.mem (List.getElem_mem ha)).xor (sel_span rs p)
def bitsN (p : Nat) : List Nat := (List.range (if p = 0 then 0 else p.log2 + 1)).filter fun i => p.testBit i
theorem mem_bitsN {p i : Nat} : i ∈ bitsN p ↔ p.testBit i = true := by
  unfold bitsN
  rw [List.mem_filter, List.mem_range]
  constructor
  · exact fun h => h.2
  · intro h
    refine ⟨?_, h⟩
    by_cases h0 : p = 0
    · subst h0; rw [Nat.zero_testBit] at h; cases h
    · rw [if_neg h0]
      rcases Nat.lt_or_ge i (p.log2 + 1) with q | q
      · exact q
      · rw [Nat.testBit_lt_two_pow (Nat.lt_of_lt_of_le Nat.lt_log2_self (Nat.pow_le_pow_right (by decide) q))] at h
        cases h
theorem bitsN_nodup (p : Nat) : (bitsN p).Nodup := List.nodup_range.filter _
theorem bitsN_lt (p : Nat) : (bitsN p).Pairwise (· < ·) := List.pairwise_lt_range.filter _
/-- the number with some bits -/
def mk (is : List Nat) : Nat := is.foldl (fun a i => a ^^^ 2 ^ i) 0
theorem foldl_xor (f : Nat → Nat) : ∀ (is : List Nat) (a : Nat), is.foldl (fun a i => a ^^^ f i) a = a ^^^ is.foldl (fun a i => a ^^^ f i) 0
  | [], a => by simp
  | i :: is, a => by
    rw [List.foldl_cons, List.foldl_cons, foldl_xor f is (a ^^^ f i), foldl_xor f is (0 ^^^ f i), Nat.zero_xor, Nat.xor_assoc]
theorem mk_cons (i : Nat) (is : List Nat) : mk (i :: is) = 2 ^ i ^^^ mk is := by
  unfold mk
  rw [List.foldl_cons, foldl_xor, Nat.zero_xor]
theorem mk_bit : ∀ {is : List Nat} (j : Nat), is.Nodup → (mk is).testBit j = decide (j ∈ is)
  | [], j, _ => by simp [mk]
  | i :: is, j, h => by
    obtain ⟨h1, h2⟩ := List.nodup_cons.mp h
    rw [mk_cons, Nat.testBit_xor, mk_bit j h2, Nat.testBit_two_pow]
    by_cases e : i = j
    · subst e; simp [h1]
    · have : ¬ j = i := fun q => e q.symm
      simp [e, this]
theorem mk_bits (p : Nat) : mk (bitsN p) = p := by
  refine Nat.eq_of_testBit_eq fun j => ?_
  rw [mk_bit j (bitsN_nodup p)]
  cases h : p.testBit j
  · exact decide_eq_false fun q => by rw [mem_bitsN, h] at q; cases q
  · exact decide_eq_true (mem_bitsN.mpr h)
theorem sel_mk : ∀ {rs is : List Nat}, (∀ i ∈ is, i < rs.length) → sel rs (mk is) = is.foldl (fun a i => a ^^^ rs.getD i 0) 0
  | rs, [], _ => by simp [mk, sel_zero]
  | rs, i :: is, h => by
    have hi := h i List.mem_cons_self
    rw [mk_cons, sel_xor, sel_pow rs i hi, sel_mk fun j hj => h j (List.mem_cons_of_mem _ hj), List.foldl_cons, foldl_xor _ is (0 ^^^ rs.getD i 0), Nat.zero_xor]
    simp [List.getD, hi]
theorem sel_bits {rs : List Nat} {p : Nat} (h : p < 2 ^ rs.length) : (bitsN p).foldl (fun a i => a ^^^ rs.getD i 0) 0 = sel rs p := by
  rw [← sel_mk fun i hi => ?_, mk_bits]
  have := mem_bitsN.mp hi
  rcases Nat.lt_or_ge i rs.length with q | q
  · exact q
  · rw [Nat.testBit_lt_two_pow (Nat.lt_of_lt_of_le h (Nat.pow_le_pow_right (by decide) q))] at this
    cases this
/-- ... as far as they are gone through -/
theorem sel_take {rs : List Nat} {p k : Nat} (h : k < rs.length) : sel (rs.take (k + 1)) p = sel (rs.take k) p ^^^ (if p.testBit k = true then rs[k] else 0) := by
  rw [List.take_add_one, List.getElem?_eq_getElem h, Option.toList_some, sel_snoc, List.length_take, Nat.min_eq_left (Nat.le_of_lt h)]
end Gf
namespace PG
open DN Gf
open L2 (Key)
open PySem (PyData Str)
theorem two_lt {x n m : Nat} (h : x < 2 ^ n) (q : n ≤ m) : x < 2 ^ m := Nat.lt_of_lt_of_le h (Nat.pow_le_pow_right (by decide) q)
theorem and_lt {a c n : Nat} (h : a < 2 ^ n) : a &&& c < 2 ^ n := Nat.lt_of_le_of_lt Nat.and_le_left h
theorem idx_len {α : Type} {xs : List α} {i : Nat} {x : α} (h : xs[i]? = some x) : i < xs.length := (List.getElem?_eq_some_iff.mp h).1
/-- a list told as a mapping (rows, offset) -/
@[simp] theorem gEq2_mp' (x y : List Nat) (a b : Nat) : gEq2 (.tup [.lst (x.map iN), iN a]) (.tup [.lst (y.map iN), iN b]) = some (.fz (.bl (decide ((x, a) = (y, b))))) := gEq2_mp (x, a) (y, b)
@[simp] theorem gNe2_mp' (x y : List Nat) (a b : Nat) : gNe2 (.tup [.lst (x.map iN), iN a]) (.tup [.lst (y.map iN), iN b]) = some (.fz (.bl (!decide ((x, a) = (y, b))))) := gNe2_mp (x, a) (y, b)
theorem sum_vec : ∀ (rs : List Nat) (k x : Nat), ((rs.zipIdx k).map fun q => (par (q.1 &&& x)).toNat * 2 ^ q.2).sum = vec rs x * 2 ^ k
  | [], k, x => by simp [vec]
  | r :: rs, k, x => by
    rw [List.zipIdx_cons, List.map_cons, List.sum_cons, sum_vec rs (k + 1) x, vec, Nat.add_mul, Nat.pow_succ]
    simp only [Nat.mul_assoc, Nat.mul_comm, Nat.mul_left_comm]
theorem bt_shl {c : Bool} {i : Nat} (h : i ≤ 100000) : gShl (iN c.toNat) (iN i) = some (.fz (iN (c.toNat * 2 ^ i))) := gShl_N 1 (by have := bool_le c; omega) (by omega)
theorem p_moved {rs : List Nat} {o x : Nat} (hl : rs.length ≤ 1000) (hr : ∀ r ∈ rs, r < 2 ^ 128) : d_moved [.tup [.lst (rs.map iN), iN o], iN x] = .ok [] (.fz (iN (app (rs, o) x))) := by
  have e := lc_enum (g := storeN [4, 5]) (t := dYes) (f := x_moved_1) (vs := [4, 5]) (ρ := [.fz (.tup [.lst (rs.map iN), iN o]), .ln (iN x), .fz (.lst (rs.map iN)), .fz (iN o), .un, .un]) iN (fun _ _ => true) (fun i r => iN ((par (r &&& x)).toNat * 2 ^ i)) (xs := rs) (fun i r h => by
    have hr' := hr r (List.mem_of_getElem? h)
    have hi := idx_len h
    have e1 := p_parity (n := r &&& x) (and_lt hr')
    have e2 := bt_shl (c := par (r &&& x)) (i := i) (by omega)
    simp [x_moved_1, e1, e2]) (by omega)
  have e2 : ((rs.zipIdx.filter fun q => true).map fun q => iN ((par (q.1 &&& x)).toNat * 2 ^ q.2)) = ((rs.zipIdx).map fun q => (par (q.1 &&& x)).toNat * 2 ^ q.2).map iN := by
    rw [List.filter_eq_self.mpr (by simp), List.map_map]
    rfl
  rw [e2] at e
  have e3 := gSum_N ((rs.zipIdx).map fun q => (par (q.1 &&& x)).toNat * 2 ^ q.2)
  have e4 := sum_vec rs 0 x
  rw [Nat.pow_zero, Nat.mul_one] at e4
  rw [e4] at e3
  generalize ((rs.zipIdx).map fun q => (par (q.1 &&& x)).toNat * 2 ^ q.2) = zs at *
  simp [d_moved, b_moved, e, e3, app]
/-- what is kept while rows are looked at -/
structure Elim0 (b : Nat) (L : Leads) (ms : List Nat) : Prop where
  low : Low L
  nd : (L.map (·.1)).Nodup
  lt : ∀ p ∈ L, p.1 < b
  lm : ∀ p ∈ L, p.2.1 < 2 ^ b
  bas : Basis (L.map fun p => (p.1, p.2.1)) ms
theorem Elim0.nil {b : Nat} : Elim0 b [] [] := ⟨fun p hp => (nomatch hp), List.nodup_nil, fun p hp => (nomatch hp), fun p hp => (nomatch hp), Basis.nil⟩
theorem Elim.to0 {b : Nat} {L : Leads} {E ms : List Nat} (h : Elim b L E ms) : Elim0 b L ms := ⟨h.low, h.nd, h.lt, h.lm, h.bas⟩
section
variable {b : Nat} {L : Leads} {ms : List Nat}
theorem Elim0.len (h : Elim0 b L ms) : L.length ≤ b := by
  have := nodup_le h.nd (n := b) fun x hx => by
    obtain ⟨p, hp, rfl⟩ := List.mem_map.mp hx
    exact h.lt p hp
  rwa [List.length_map] at this
theorem Elim0.rk (h : Elim0 b L ms) : L.length = Gf.rk ms := by
  have := h.bas.len
  rwa [List.length_map] at this
/-- nothing is left just of what can be made -/
theorem Elim0.left (h : Elim0 b L ms) (m p : Nat) : (red L (m, p)).1 = 0 ↔ Span ms m := by
  obtain ⟨h1, h2⟩ := red_spec h.low h.nd (m, p)
  have h2 := h2.fst
  rw [map_f, ← map_snd] at h2
  constructor
  · intro hz
    rw [hz, Nat.xor_zero] at h2
    exact (h.bas.span m).mp h2
  · intro hm
    have h3 := ((h.bas.span m).mpr hm).xor h2
    rw [xor_x] at h3
    refine h.bas.ech.zero (fun q hq => ?_) h3
    obtain ⟨p', hp, rfl⟩ := List.mem_map.mp hq
    exact h1 p' hp
theorem Elim0.bound (h : Elim0 b L ms) {m : Nat} (p : Nat) (hm : m < 2 ^ b) : (red L (m, p)).1 < 2 ^ b := by
  obtain ⟨h1, h2⟩ := red_spec h.low h.nd (m, p)
  have h2 := h2.fst
  rw [map_f] at h2
  have q := h2.bound (n := b) fun x hx => by
    obtain ⟨p, hp, rfl⟩ := List.mem_map.mp hx
    exact h.lm p hp
  have := Nat.xor_lt_two_pow hm q
  rwa [xor_x] at this
theorem Elim0.more (h : Elim0 b L ms) {m : Nat} (p q : Nat) (hm : m < 2 ^ b) (h0 : (red L (m, p)).1 ≠ 0) :
    Elim0 b (L ++ [(lsb (red L (m, p)).1, (red L (m, p)).1, q)]) (ms ++ [m]) ∧ lsb (red L (m, p)).1 ∉ L.map (·.1) := by
  obtain ⟨h1, h2⟩ := red_spec h.low h.nd (m, p)
  have hlt := h.bound p hm
  have h2 := h2.fst
  rw [map_f] at h2
  obtain ⟨t1, t2, _⟩ := lsb_spec (Nat.pos_of_ne_zero h0)
  have tb := lsb_lt (Nat.pos_of_ne_zero h0) hlt
  generalize (red L (m, p)).1 = r at *
  have tn : lsb r ∉ L.map (·.1) := fun hx => by
    obtain ⟨p', hp, e⟩ := List.mem_map.mp hx
    have := h1 p' hp
    rw [e, t1] at this
    cases this
  refine ⟨⟨fun x hx => ?_, ?_, fun x hx => ?_, fun x hx => ?_, ?_⟩, tn⟩
  · rcases List.mem_append.mp hx with hx | hx
    · exact h.low x hx
    · rw [List.mem_singleton.mp hx]; exact ⟨t1, t2⟩
  · rw [List.map_append]
    refine List.nodup_append.mpr ⟨h.nd, by simp, fun a ha c hc e => ?_⟩
    have hc' : c = lsb r := by simpa using hc
    rw [hc'] at e
    subst e
    exact tn ha
  · rcases List.mem_append.mp hx with hx | hx
    · exact h.lt x hx
    · rw [List.mem_singleton.mp hx]; exact tb
  · rcases List.mem_append.mp hx with hx | hx
    · exact h.lm x hx
    · rw [List.mem_singleton.mp hx]; exact hlt
  · rw [List.map_append]
    refine h.bas.more (fun x hx => ?_) t1 (by rw [map_snd]; exact h2)
    obtain ⟨p', hp, rfl⟩ := List.mem_map.mp hx
    exact h1 p' hp
end
/-- in rows as many as their rank none is made of those ahead -/
theorem rkFrom_le (a : List Nat) : ∀ ms : List Nat, rkFrom a ms ≤ ms.length := by
  intro ms
  induction ms generalizing a with
  | nil => exact Nat.le_refl _
  | cons m ms ih =>
    have := ih (a ++ [m])
    rw [rkFrom, List.length_cons]
    split <;> omega
theorem ahead_out {d t : List Nat} {m : Nat} (h : rk (d ++ m :: t) = (d ++ m :: t).length) : ¬ Span d m := fun hs => by
  have h1 : rk (d ++ m :: t) = rkFrom [] d + rkFrom d (m :: t) := by
    unfold rk
    rw [rkFrom_app, List.nil_append]
  have h2 := rkFrom_le [] d
  have h3 := rkFrom_le (d ++ [m]) t
  rw [rkFrom, if_pos hs] at h1
  rw [List.length_append, List.length_cons] at h
  omega
theorem p_mapping_fault {b : Nat} {m : Mp} (h1 : 1 ≤ b) (hb : b ≤ 60) (h : Map b m) : d_mapping_fault [.tup [.lst (m.1.map iN), iN m.2]] = .ok [] (.tp []) := by
  obtain ⟨rs, o⟩ := m
  have hl : rs.length = b := h.len
  obtain ⟨ρ', e, L, y4, y5, y6, rfl, he⟩ := loop_e (g := storeN [4, 5]) (b := x_mapping_fault_1) iN (fun d ρ => ∃ (L : Leads) (y4 y5 y6 : Sl), ρ = [.fz (.tup [.lst (rs.map iN), iN o]), .fz (.lst (rs.map iN)), .fz (iN o), .own (ldD L), y4, y5, y6] ∧ Elim0 b L d) (xs := rs) (ρ := [.fz (.tup [.lst (rs.map iN), iN o]), .fz (.lst (rs.map iN)), .fz (iN o), .own (ldD []), .un, .un, .un]) ⟨[], _, _, _, rfl, .nil⟩ (by
    rintro d r u ρ hx ⟨L, y4, y5, y6, rfl, he⟩
    have hr : r < 2 ^ b := h.row r (by show r ∈ rs; rw [hx]; simp)
    have hL := he.len
    have hr2 : r < 2 ^ rs.length := by rw [hl]; exact hr
    have hl99 : rs.length ≤ 99 := by omega
    have pr := p_reduced (L := L) (m := r) (p := 0) (by omega)
    have hout : ¬ Span d r := ahead_out (t := u) (by
      have := h.rk
      rw [← hx]
      exact this.trans hl.symm)
    have hz : (red L (r, 0)).1 ≠ 0 := fun q => hout ((he.left r 0).mp q)
    have hp := Nat.pos_of_ne_zero hz
    obtain ⟨k1, k2⟩ := he.more 0 0 hr hz
    have hL2 : L.length ≤ 100000 := by omega
    have eg := put_ldD (x := (red L (r, 0)).1) (p := 0) k2 hL2
    simp [x_mapping_fault_1, p_is_place hl99, hr2, pr, hz, hp, eg]
    exact ⟨_, rfl, k1⟩)
  have e : dLoop (storeN [4, 5]) x_mapping_fault_1 (enumItems (rs.map iN)) [.fz (.tup [.lst (rs.map iN), iN o]), .fz (.lst (rs.map iN)), .fz (iN o), .own (.dct []), .un, .un, .un] = _ := e
  have h2 : 1 ≤ rs.length := by omega
  have h3 : rs.length ≤ 60 := by omega
  have h4 : o < 2 ^ rs.length := by rw [hl]; exact h.off
  have hl99 : rs.length ≤ 99 := by omega
  simp [d_mapping_fault, b_mapping_fault, h2, h3, e, p_is_place hl99, h4]
theorem p_need_mapping {b : Nat} {m : Mp} (h1 : 1 ≤ b) (hb : b ≤ 60) (h : Map b m) : d_need_mapping [.tup [.lst (m.1.map iN), iN m.2]] = .ok [] (.fz .non) := by
  simp [d_need_mapping, b_need_mapping, p_mapping_fault h1 hb h, gNe2_tup0]
/-- the picks of what single bits are made of -/
theorem Elim.pick {b : Nat} {L : Leads} {E rs : List Nat} (h : Elim b L E rs) {x : Nat} (hx : Span rs x) : (red L (x, 0)).2 < 2 ^ rs.length ∧ sel rs (red L (x, 0)).2 = x := by
  obtain ⟨h1, h2⟩ := red_spec h.low h.nd (x, 0)
  have hz := (h.to0.left x 0).mpr hx
  rw [hz, Nat.xor_zero, Nat.zero_xor] at h2
  constructor
  · have h3 := h2.snd
    rw [map_s] at h3
    exact h3.bound fun y hy => by
      obtain ⟨p, hp, rfl⟩ := List.mem_map.mp hy
      exact (h.pk p hp).1
  · exact SpanP.sel (fun q hq => by
      obtain ⟨p, hp, rfl⟩ := List.mem_map.mp hq
      exact (h.pk p hp).2) h2
/-- n leads m back -/
structure Back (b : Nat) (m n : Mp) : Prop where
  map : Map b n
  back : ∀ x, x < 2 ^ b → app n (app m x) = x
  forth : ∀ x, x < 2 ^ b → app m (app n x) = x
end PG
namespace PG
open DN Gf
open L2 (Key)
open PySem (PyData Str)
/-- a mapping and a stage behind it -/
def mstep (t : Tri) (m : Mp) : Mp := (m.1.set t.a (m.1.getD t.a 0 ^^^ sel m.1 t.b), stg t m.2)
def made (b : Nat) (ts : List Tri) : Mp := ts.foldl (fun m t => mstep t m) (idM b)
theorem made_snoc (b : Nat) (ts : List Tri) (t : Tri) : made b (ts ++ [t]) = mstep t (made b ts) := by
  unfold made
  rw [List.foldl_append]
  rfl
theorem app_mstep {b : Nat} {t : Tri} {m : Mp} (hl : m.1.length = b) (ht : Stg b t) (x : Nat) : app (mstep t m) x = stg t (app m x) := by
  obtain ⟨h1, h2, h3, h4⟩ := ht
  have ha : t.a < m.1.length := by omega
  unfold app mstep stg
  have e : m.1.getD t.a 0 = m.1[t.a] := by simp [List.getD, ha]
  simp only [e]
  rw [vec_set _ _ ha, par_xor_and, par_sel, par_and_xor]
  generalize vec m.1 x = v
  generalize par (m.1[t.a] &&& x) = p
  refine Nat.eq_of_testBit_eq fun i => ?_
  simp only [Nat.testBit_xor, bit_one]
  generalize m.2.testBit i = q
  generalize v.testBit i = r
  generalize par (t.b &&& m.2) = y
  generalize par (t.b &&& v) = z
  generalize decide (t.c = 1) = w
  generalize decide (i = t.a) = u
  cases p <;> cases q <;> cases r <;> cases y <;> cases z <;> cases w <;> cases u <;> rfl
theorem map_mstep {b : Nat} {t : Tri} {m : Mp} (h : Map b m) (ht : Stg b t) : Map b (mstep t m) := by
  have ha : t.a < m.1.length := by rw [h.len]; exact ht.1
  have e : m.1.getD t.a 0 = m.1[t.a] := by simp [List.getD, ha]
  refine ⟨?_, fun r hr => ?_, stg_lt ht h.off, fun i hi => ?_⟩
  · show (m.1.set _ _).length = b
    rw [List.length_set, h.len]
  · have hr : r ∈ m.1.set t.a (m.1.getD t.a 0 ^^^ sel m.1 t.b) := hr
    rcases List.mem_or_eq_of_mem_set hr with hr | rfl
    · exact h.row r hr
    · rw [e]
      exact Nat.xor_lt_two_pow (h.row _ (List.getElem_mem ha)) ((sel_span _ _).bound h.row)
  · show Span (m.1.set t.a (m.1.getD t.a 0 ^^^ sel m.1 t.b)) _
    rw [e]
    exact (span_set ha ht.2.2.1 _).mp (h.all i hi)
theorem made_ok {b : Nat} : ∀ {ts : List Tri}, (∀ t ∈ ts, Stg b t) → Map b (made b ts) ∧ ∀ x, x < 2 ^ b → app (made b ts) x = runs ts x := by
  have key : ∀ (ts : List Tri) (m : Mp), Map b m → (∀ t ∈ ts, Stg b t) → Map b (ts.foldl (fun m t => mstep t m) m) ∧ ∀ x, app (ts.foldl (fun m t => mstep t m) m) x = runs ts (app m x) := by
    intro ts
    induction ts with
    | nil => intro m h _; exact ⟨h, fun x => rfl⟩
    | cons t ts ih =>
      intro m h ht
      have h1 := ht t List.mem_cons_self
      obtain ⟨k1, k2⟩ := ih (mstep t m) (map_mstep h h1) fun s hs => ht s (List.mem_cons_of_mem _ hs)
      refine ⟨k1, fun x => ?_⟩
      rw [List.foldl_cons, k2 x, app_mstep h.len h1]
      rfl
  intro ts ht
  obtain ⟨k1, k2⟩ := key ts (idM b) (.id b) ht
  exact ⟨k1, fun x hx => (k2 x).trans (by rw [app_id hx])⟩
theorem set_map (rs : List Nat) (a x : Nat) : (rs.map iN).set a (iN x) = (rs.set a x).map iN := by rw [List.map_set]
theorem p_made_in {b : Nat} {rs : List Nat} {t : Tri} {x0 x1 x3 x7 x8 : Sl} (hl : rs.length = b) (ha : t.a < b) :
    ∃ y, dLoop (store 8) x__law_made_2 (fzs ((List.range b).map iN)) [x0, x1, .own (.lst (rs.map iN)), x3, .fz (iN t.a), .fz (iN t.b), .fz (iN t.c), .fz (iN (rs.getD t.a 0)), x8] = .ok [x0, x1, .own (.lst (rs.map iN)), x3, .fz (iN t.a), .fz (iN t.b), .fz (iN t.c), .fz (iN (rs.getD t.a 0 ^^^ sel rs t.b)), y] .nx := by
  obtain ⟨ρ', e, y, rfl⟩ := loop_l (g := store 8) (b := x__law_made_2) iN (fun d ρ => ∃ y, ρ = [x0, x1, .own (.lst (rs.map iN)), x3, .fz (iN t.a), .fz (iN t.b), .fz (iN t.c), .fz (iN (rs.getD t.a 0 ^^^ sel (rs.take d.length) t.b)), y]) (xs := List.range b) (ρ := [x0, x1, .own (.lst (rs.map iN)), x3, .fz (iN t.a), .fz (iN t.b), .fz (iN t.c), .fz (iN (rs.getD t.a 0)), x8]) ⟨x8, by simp [sel]⟩ (by
    rintro d k u ρ hx ⟨y, rfl⟩
    have hd := len_app hx
    rw [List.length_range] at hd
    have hk : k = d.length := by
      have h1 : (List.range b)[d.length]? = some k := by rw [hx]; simp
      rw [List.getElem?_range hd] at h1
      exact (Option.some.inj h1).symm
    subst hk
    have hd2 : d.length < rs.length := by omega
    rw [List.length_append, List.length_singleton, sel_take hd2]
    generalize sel (rs.take d.length) t.b = z
    cases hb : t.b.testBit d.length <;> simp [x__law_made_2, hb, hd2, Nat.xor_assoc])
  rw [List.length_range, ← hl, List.take_length] at e
  subst hl
  exact ⟨y, e⟩
theorem p_law_made {b : Nat} {ts : List Tri} (hb : b ≤ 399) (hl : ts.length ≤ 1000) (ht : ∀ t ∈ ts, Stg b t) : d__law_made [iN b, .lst (ts.map tri)] = .ok [] (.tp [.own (.lst ((made b ts).1.map iN)), .fz (iN (made b ts).2)]) := by
  obtain ⟨ρ', e, y4, y5, y6, y7, y8, rfl⟩ := loop_l (g := storeN [4, 5, 6]) (b := x__law_made_3) tri (fun d ρ => ∃ y4 y5 y6 y7 y8, ρ = [.ln (iN b), .ln (.lst (ts.map tri)), .own (.lst ((made b d).1.map iN)), .fz (iN (made b d).2), y4, y5, y6, y7, y8]) (xs := ts) (ρ := [.ln (iN b), .ln (.lst (ts.map tri)), .own (.lst ((made b []).1.map iN)), .fz (iN 0), .un, .un, .un, .un, .un]) ⟨_, _, _, _, _, rfl⟩ (by
    rintro d t u ρ hx ⟨y4, y5, y6, y7, y8, rfl⟩
    have ht' := ht t (by rw [hx]; simp)
    obtain ⟨hm, _⟩ := made_ok (b := b) (ts := d) fun s hs => ht s (by rw [hx]; simp [hs])
    obtain ⟨q1, q2, q3, q4⟩ := ht'
    rw [made_snoc]
    unfold mstep
    generalize made b d = m at *
    obtain ⟨rs, o⟩ := m
    have hrl : rs.length = b := hm.len
    have ho : o < 2 ^ b := hm.off
    have ha : t.a < rs.length := by omega
    have hg : rs.getD t.a 0 = rs[t.a] := by simp [List.getD, ha]
    obtain ⟨y, ey⟩ := p_made_in (x0 := .ln (iN b)) (x1 := .ln (.lst (ts.map tri))) (x3 := .fz (iN o)) (x7 := .un) (x8 := y8) hrl q1
    rw [hg] at ey
    have es := p_odd (n := t.b &&& o) (and_lt (two_lt q2 (by omega)))
    have hb2 : b ≤ 1000000 := by omega
    have hc : t.c = (decide (t.c = 1)).toNat := by
      have : t.c = 0 ∨ t.c = 1 := by omega
      rcases this with h | h <;> rw [h] <;> rfl
    have e2 : gShl (iN ((par (t.b &&& o)).toNat ^^^ t.c)) (iN t.a) = some (.fz (iN ((par (t.b &&& o) ^^ decide (t.c = 1)).toNat * 2 ^ t.a))) := by
      conv => lhs; rw [hc]
      rw [toNat_xor]
      exact gShl_N 1 (by have := bool_le (par (t.b &&& o) ^^ decide (t.c = 1)); omega) (by omega)
    simp only [hg, ← set_map]
    simp [x__law_made_3, tri, ha, hb2, ey, es, e2, stg, -List.map_set])
  have e2 := lc_map (g := store 8) (t := dYes) (f := x__law_made_1) (vs := [8]) (ρ := [.ln (iN b), .ln (.lst (ts.map tri)), .un, .un, .un, .un, .un, .un, .un]) iN (fun i => iN (2 ^ i)) (xs := List.range b) (fun i hi => by
    have hi := List.mem_range.mp hi
    have h1 : i ≤ 100000 := by omega
    simp [x__law_made_1, h1]) (by simp; omega)
  have e3 : ((List.range b).map fun i => iN (2 ^ i)) = (made b []).1.map iN := by
    show _ = ((List.range b).map fun i => 2 ^ i).map iN
    rw [List.map_map]
    rfl
  rw [e3] at e2
  generalize made b [] = m0 at *
  generalize made b ts = m1 at *
  have hb2 : b ≤ 1000000 := by omega
  simp [d__law_made, b__law_made, hb2, e2, e]
theorem p_sequence {m b : Nat} {s : D} (hb : b ≤ 399) (hs : Src m s) (hm : m < 5000000) : ∃ (s' : D) (is : List Nat), d__law_sequence [s, iN b] = .ok [s'] (.own (.lst (is.map iN))) ∧ Src (m + 1 + b) s' ∧ is.Perm (List.range b) := by
  obtain ⟨s1, way, e1, q1, l1⟩ := p_draw' hs (by omega) (show 0 < 4 by decide) (by decide)
  have hb2 : b ≤ 1000000 := by omega
  by_cases h0 : way = 0
  · subst h0
    exact ⟨s1, List.range b, by simp [d__law_sequence, b__law_sequence, hb2, e1], q1.mono (by omega), List.Perm.refl _⟩
  · by_cases h1 : way = 1
    · subst h1
      refine ⟨s1, (List.range b).reverse, ?_, q1.mono (by omega), List.reverse_perm _⟩
      simp [d__law_sequence, b__law_sequence, hb2, e1, gRev]
    · obtain ⟨s2, is, e2, q2, pm⟩ := p_mixedN (xs := List.range b) q1 (by omega) (by simp; omega)
      rw [List.length_range] at q2
      exact ⟨s2, is, by simp [d__law_sequence, b__law_sequence, hb2, e1, h0, h1, e2], q2.mono (by omega), pm.symm⟩
end PG
namespace PG
open DN Gf
open L2 (Key)
open PySem (PyData Str)
theorem map_units {b : Nat} {is : List Nat} {o : Nat} (h : is.Perm (List.range b)) (ho : o < 2 ^ b) : Map b (is.map fun i => 2 ^ i, o) := by
  refine ⟨by rw [List.length_map, h.length_eq, List.length_range], fun r hr => ?_, ho, fun i hi => .mem (List.mem_map.mpr ⟨i, h.mem_iff.mpr (List.mem_range.mpr hi), rfl⟩)⟩
  obtain ⟨i, hi, rfl⟩ := List.mem_map.mp hr
  exact Nat.pow_lt_pow_right (by decide) (List.mem_range.mp (h.mem_iff.mp hi))
theorem map_more {a b : Nat} {m : Mp} (h : Map a m) (hab : a ≤ b) : Map b (m.1 ++ (List.range' a (b - a)).map fun i => 2 ^ i, m.2) := by
  refine ⟨by rw [List.length_append, h.len, List.length_map, List.length_range']; omega, fun r hr => ?_, two_lt h.off hab, fun i hi => ?_⟩
  · rcases List.mem_append.mp hr with hr | hr
    · exact two_lt (h.row r hr) hab
    · obtain ⟨i, hi, rfl⟩ := List.mem_map.mp hr
      have := (List.mem_range'_1.mp hi).2
      exact Nat.pow_lt_pow_right (by decide) (by omega)
  · by_cases hia : i < a
    · exact (h.all i hia).of_mem fun x hx => List.mem_append_left _ hx
    · exact .mem (List.mem_append_right _ (List.mem_map.mpr ⟨i, List.mem_range'_1.mpr ⟨by omega, by omega⟩, rfl⟩))
/-- what has bits that can be made can be made -/
theorem span_bits {S : List Nat} {n : Nat} : ∀ {z : Nat}, z < 2 ^ n → (∀ j, z.testBit j = true → Span S (2 ^ j)) → Span S z := by
  induction n with
  | zero =>
    intro z hz _
    have : z = 0 := by simpa using hz
    subst this
    exact Span.zero S
  | succ n ih =>
    intro z hz h
    by_cases hb : z.testBit n = true
    · have h1 : z ^^^ 2 ^ n < 2 ^ n := by
        refine Nat.lt_pow_two_of_testBit _ fun i hi => ?_
        rw [Nat.testBit_xor, Nat.testBit_two_pow]
        by_cases e : n = i
        · subst e; simp [hb]
        · rw [Nat.testBit_lt_two_pow (two_lt hz (by omega))]
          simp [e]
      have := (ih h1 fun j hj => h j (by
        rw [Nat.testBit_xor, Nat.testBit_two_pow] at hj
        by_cases e : n = j
        · subst e; exact hb
        · simpa [e] using hj)).xor (h n hb)
      rwa [xor_d] at this
    · refine ih (Nat.lt_pow_two_of_testBit _ fun i hi => ?_) h
      by_cases e : n = i
      · subst e; exact Bool.eq_false_iff.mpr hb
      · exact Nat.testBit_lt_two_pow (two_lt hz (by omega))
theorem or_xor {a z : Nat} (h : z.testBit a = false) : 2 ^ a ||| z = 2 ^ a ^^^ z := by
  refine Nat.eq_of_testBit_eq fun j => ?_
  rw [Nat.testBit_or, Nat.testBit_xor, Nat.testBit_two_pow]
  by_cases e : a = j
  · subst e; simp [h]
  · simp [e]
/-- rows put in, each of its own bit and of bits that have theirs -/
structure Tria (b : Nat) (d R : List Nat) : Prop where
  len : R.length = b
  row : ∀ r ∈ R, r < 2 ^ b
  nd : d.Nodup
  lt : ∀ j ∈ d, j < b
  all : ∀ j ∈ d, Span (d.map fun i => R.getD i 0) (2 ^ j)
theorem Tria.step {b at' r : Nat} {d R : List Nat} (h : Tria b d R) (ha : at' < b) (hn : at' ∉ d) (hr : r < 2 ^ b) : Tria b (d ++ [at']) (R.set at' (2 ^ at' ||| (Gf.mk d &&& r))) ∧ 2 ^ at' ||| (Gf.mk d &&& r) < 2 ^ b := by
  have hz : (Gf.mk d &&& r).testBit at' = false := by
    rw [Nat.testBit_and, mk_bit _ h.nd, decide_eq_false hn]
    rfl
  have hzb : Gf.mk d &&& r < 2 ^ b := Nat.lt_of_le_of_lt Nat.and_le_right hr
  have hv : 2 ^ at' ||| (Gf.mk d &&& r) < 2 ^ b := Nat.or_lt_two_pow (Nat.pow_lt_pow_right (by decide) ha) hzb
  have e0 : ∀ v, (d.map fun i => (R.set at' v).getD i 0) = d.map fun i => R.getD i 0 := fun v => List.map_congr_left fun i hi => by
    have : ¬ at' = i := fun e => hn (e ▸ hi)
    simp [List.getD, List.getElem?_set, this]
  have e1 : ∀ v, ((d ++ [at']).map fun i => (R.set at' v).getD i 0) = (d.map fun i => R.getD i 0) ++ [v] := fun v => by
    rw [List.map_append, e0]
    have : at' < R.length := by rw [h.len]; exact ha
    simp [List.getD, this]
  have hs : Span (d.map fun i => R.getD i 0) (Gf.mk d &&& r) := span_bits hzb fun j hj => by
    rw [Nat.testBit_and, mk_bit _ h.nd] at hj
    exact h.all j (by simpa using (Bool.and_eq_true_iff.mp hj).1)
  refine ⟨⟨by rw [List.length_set, h.len], fun x hx => ?_, ?_, fun j hj => ?_, fun j hj => ?_⟩, hv⟩
  · rcases List.mem_or_eq_of_mem_set hx with hx | rfl
    · exact h.row x hx
    · exact hv
  · exact List.nodup_append.mpr ⟨h.nd, by simp, fun x hx y hy e => by
      rw [List.mem_singleton] at hy
      subst hy; subst e
      exact hn hx⟩
  · rcases List.mem_append.mp hj with hj | hj
    · exact h.lt j hj
    · rw [List.mem_singleton.mp hj]; exact ha
  · rw [e1]
    rcases List.mem_append.mp hj with hj | hj
    · exact (h.all j hj).of_mem fun x hx => List.mem_append_left _ hx
    · rw [List.mem_singleton.mp hj]
      have h1 : Span ((d.map fun i => R.getD i 0) ++ [2 ^ at' ||| (Gf.mk d &&& r)]) (2 ^ at' ||| (Gf.mk d &&& r)) := .mem (by simp)
      have h2 := h1.xor (hs.of_mem fun x hx => List.mem_append_left _ hx)
      rw [or_xor hz, xor_d] at h2
      rw [or_xor hz]
      exact h2
theorem Tria.map {b o : Nat} {d R : List Nat} (h : Tria b d R) (hd : d.Perm (List.range b)) (ho : o < 2 ^ b) : Map b (R, o) := by
  refine ⟨h.len, h.row, ho, fun i hi => ?_⟩
  have := h.all i (hd.mem_iff.mpr (List.mem_range.mpr hi))
  refine this.of_mem fun x hx => ?_
  obtain ⟨j, hj, rfl⟩ := List.mem_map.mp hx
  have hjb : j < R.length := by rw [h.len]; exact h.lt j hj
  simp [List.getD, hjb]
theorem mk_snoc {d : List Nat} {a : Nat} (hn : a ∉ d) (nd : d.Nodup) : mk (d ++ [a]) = mk d ||| 2 ^ a := by
  have : mk (d ++ [a]) = mk d ^^^ 2 ^ a := by
    unfold mk
    rw [List.foldl_append]
    rfl
  rw [this, Nat.or_comm, or_xor (by rw [mk_bit _ nd, decide_eq_false hn]), Nat.xor_comm]
theorem gMul_bit {r c b : Nat} (hr : r < 2 ^ b) (hc : c < 2) : r * c < 2 ^ b := by
  have : c = 0 ∨ c = 1 := by omega
  rcases this with rfl | rfl
  · simp [Nat.two_pow_pos]
  · simpa using hr
theorem p_plan {m b : Nat} {s : D} (h1 : 1 ≤ b) (hb : b ≤ 60) (hs : Src m s) (hm : m < 10 ^ 6) : ∃ (s' : D) (p : Mp), d__law_plan [s, iN b] = .ok [s'] (.tp [.own (.lst (p.1.map iN)), .fz (iN p.2)]) ∧ Src (m + 3000) s' ∧ Map b p := by
  obtain ⟨s1, way, e1, q1, l1⟩ := p_draw' hs (by omega) (show 0 < 7 by decide) (by decide)
  have hb2 : b ≤ 100000 := by omega
  have hb3 : b ≤ 1000000 := by omega
  have hway : way = 0 ∨ way = 1 ∨ way = 2 ∨ way = 3 ∨ way = 4 ∨ way = 5 ∨ way = 6 := by omega
  rcases hway with rfl | rfl | rfl | rfl | rfl | rfl | rfl
  · obtain ⟨s2, ts, e2, q2, hl, ht⟩ := p_path (b := b) (k := 3 * b) h1 (by omega) (by omega) q1 (by omega)
    have e3 := p_law_made (b := b) (ts := ts) (by omega) (by omega) ht
    refine ⟨s2, made b ts, ?_, q2.mono (by omega), (made_ok ht).1⟩
    simp [d__law_plan, b__law_plan, e1, e2, e3]
  · obtain ⟨s2, k, e2, q2, l2⟩ := p_draw' q1 (by omega) (show 0 < b by omega) (by omega)
    obtain ⟨s3, ts, e3, q3, hl, ht⟩ := p_path (b := b) (k := 1 + k) h1 (by omega) (by omega) q2 (by omega)
    have e4 := p_law_made (b := b) (ts := ts) (by omega) (by omega) ht
    refine ⟨s3, made b ts, ?_, q3.mono (by omega), (made_ok ht).1⟩
    simp [d__law_plan, b__law_plan, e1, e2, e3, e4]
  · obtain ⟨s2, k, e2, q2, l2⟩ := p_draw' q1 (by omega) (show 0 < b by omega) (by omega)
    obtain ⟨s3, ts, e3, q3, hl, ht⟩ := p_path (b := 1 + k) (k := 2 * (1 + k)) (by omega) (by omega) (by omega) q2 (by omega)
    have e4 := p_law_made (b := 1 + k) (ts := ts) (by omega) (by omega) ht
    have hM := map_more (made_ok ht).1 (show 1 + k ≤ b by omega)
    have hlen := (made_ok ht).1.len
    generalize made (1 + k) ts = p at *
    refine ⟨s3, _, ?_, q3.mono (by omega), hM⟩
    have hk2 : 1 + k ≤ 1000000 := by omega
    have hlen2 : p.1.length + (b - (1 + k)) ≤ 100000 := by omega
    have e5 := lc_map (g := store 7) (t := dYes) (f := x__law_plan_1) (vs := [7]) (ρ := [.own s3, .ln (iN b), .fz (iN 2), .fz (iN (1 + k)), .own (.lst (p.1.map iN)), .fz (iN p.2), .un, .un]) iN (fun i => iN (2 ^ i)) (xs := List.range' (1 + k) (b - (1 + k))) (fun i hi => by
      have hi := (List.mem_range'_1.mp hi).2
      have h1 : i ≤ 100000 := by omega
      simp [x__law_plan_1, h1]) (by simp; omega)
    simp [d__law_plan, b__law_plan, e1, e2, e3, e4, hk2, hb3, e5, hlen2]
  · obtain ⟨s2, k, e2, q2, l2⟩ := p_draw' q1 (by omega) (show 0 < b by omega) (by omega)
    obtain ⟨s3, is, e3, q3, pm⟩ := p_mixedN (xs := List.range (1 + k)) q2 (by omega) (by simp; omega)
    have hl := pm.length_eq
    rw [List.length_range] at hl q3
    obtain ⟨s4, o, e4, q4, l4⟩ := p_drawB (b := b) q3 (by omega) (by omega)
    have hp : (is ++ List.range' (1 + k) (b - (1 + k))).Perm (List.range b) := by
      have : List.range b = List.range (1 + k) ++ List.range' (1 + k) (b - (1 + k)) := by
        apply List.ext_getElem
        · simp; omega
        · intro i h1 h2
          rw [List.getElem_append]
          split
          · simp
          · simp
            simp at *
            omega
      rw [this]
      exact pm.symm.append_right _
    rw [hl] at hp
    refine ⟨s4, _, ?_, q4.mono (by omega), map_units hp l4⟩
    have hk2 : 1 + k ≤ 1000000 := by omega
    have hl2 : is.length ≤ 1000000 := by omega
    have hl3 : is.length + (b - is.length) ≤ 100000 := by omega
    have e5 := lc_map (g := store 7) (t := dYes) (f := x__law_plan_2) (vs := [7]) (ρ := [.own s3, .ln (iN b), .fz (iN 3), .own (.lst (is.map iN)), .un, .un, .un, .un]) iN (fun i => iN (2 ^ i)) (xs := is ++ List.range' is.length (b - is.length)) (fun i hi => by
      have hi := List.mem_range.mp (hp.mem_iff.mp hi)
      have h1 : i ≤ 100000 := by omega
      simp [x__law_plan_2, h1]) (by simp; omega)
    rw [List.map_append] at e5
    simp [d__law_plan, b__law_plan, e1, e2, e3, hk2, hl2, hb2, hb3, hl3, e5, e4]
    rfl
  · obtain ⟨s2, is, e2, q2, pm⟩ := p_sequence (b := b) (by omega) q1 (by omega)
    have hl := pm.length_eq
    rw [List.length_range] at hl
    have hnd : is.Nodup := pm.nodup_iff.mpr List.nodup_range
    obtain ⟨ρ', e, s3, R, y7, rfl, hT, q3⟩ := loop_l (g := store 7) (b := x__law_plan_3) iN (fun d ρ => ∃ (s : D) (R : List Nat) (y7 : Sl), ρ = [.own s, .ln (iN b), .fz (iN 4), .un, .own (.lst (R.map iN)), .un, .fz (iN (mk d)), y7] ∧ Tria b d R ∧ Src (m + 100 + d.length) s) (xs := is) (ρ := [.own s2, .ln (iN b), .fz (iN 4), .un, .own (.lst ((List.replicate b 0).map iN)), .un, .fz (iN 0), .un])
      ⟨s2, List.replicate b 0, _, rfl, ⟨by simp, fun r hr => by rw [(List.mem_replicate.mp hr).2]; exact Nat.two_pow_pos b, List.nodup_nil, fun j hj => (nomatch hj), fun j hj => (nomatch hj)⟩, q2.mono (by simp; omega)⟩ (by
      rintro d a u ρ hx ⟨s, R, y7, rfl, hT, q⟩
      have hd := len_app hx
      have ha : a < b := List.mem_range.mp (pm.mem_iff.mp (by rw [hx]; simp))
      have hn : a ∉ d := fun h => by
        rw [hx] at hnd
        exact (List.nodup_append.mp hnd).2.2 a h a List.mem_cons_self rfl
      obtain ⟨s', r, e3, q', l'⟩ := p_drawB (b := b) q (by omega) (by omega)
      obtain ⟨k1, k2⟩ := hT.step ha hn l'
      have haR : a < R.length := by rw [hT.len]; exact ha
      have ha2 : a ≤ 100000 := by omega
      rw [mk_snoc hn hT.nd]
      simp [x__law_plan_3, ha2, hb2, e3, haR]
      exact ⟨s', _, ⟨rfl, by rw [List.map_set]⟩, k1, q'.mono (by omega)⟩)
    obtain ⟨s4, o, e4, q4, l4⟩ := p_drawB (b := b) q3 (by omega) (by omega)
    refine ⟨s4, _, ?_, q4.mono (by omega), hT.map pm l4⟩
    rw [List.map_replicate] at e
    simp [d__law_plan, b__law_plan, e1, e2, hb2, e, e4]
  · obtain ⟨s2, o, e2, q2, l2⟩ := p_drawB (b := b) q1 (by omega) (by omega)
    obtain ⟨s3, c, e3, q3, l3⟩ := p_draw' q2 (by omega) (show 0 < 2 by decide) (by decide)
    refine ⟨s3, _, ?_, q3.mono (by omega), map_units (List.Perm.refl (List.range b)) (gMul_bit l2 l3)⟩
    have e5 := lc_map (g := store 7) (t := dYes) (f := x__law_plan_4) (vs := [7]) (ρ := [.own s1, .ln (iN b), .fz (iN 5), .un, .un, .un, .un, .un]) iN (fun i => iN (2 ^ i)) (xs := List.range b) (fun i hi => by
      have hi := List.mem_range.mp hi
      have h1 : i ≤ 100000 := by omega
      simp [x__law_plan_4, h1]) (by simp; omega)
    have e6 : gMul (iN o) (iN c) = some (.fz (iN (o * c))) := gMul_r (by omega)
    simp [d__law_plan, b__law_plan, e1, hb2, hb3, e5, e2, e3, e6]
  · obtain ⟨s2, is, e2, q2, pm⟩ := p_sequence (b := b) (by omega) q1 (by omega)
    have hl := pm.length_eq
    rw [List.length_range] at hl
    obtain ⟨ρ', ds, e, s3, ts, rfl, rfl, q3, hlt, ht⟩ := lc_st (g := store 7) (t := dYes) (f := x__law_plan_5) (vs := [7]) iN (fun d ρ acc => ∃ (s : D) (ts : List Tri), ρ = [.own s, .ln (iN b), .fz (iN 6), .un, .un, .un, .un, .un] ∧ acc = ts.map tri ∧ Src (m + 100 + d.length) s ∧ (ts.length = d.length ∧ d.length ≤ b) ∧ ∀ t ∈ ts, Stg b t)
      (xs := is) (ρ := [.own s2, .ln (iN b), .fz (iN 6), .un, .un, .un, .un, .un]) ⟨s2, [], rfl, rfl, q2.mono (by simp; omega), ⟨rfl, Nat.zero_le _⟩, fun t ht => (nomatch ht)⟩ (by
      rintro d ρ acc ⟨s, ts, rfl, rfl, q, hl, ht⟩
      rw [List.length_map]
      omega) (by
      rintro d a u ρ acc hx ⟨s, ts, rfl, rfl, q, hl', ht⟩
      have hd := len_app hx
      have ha : a < b := List.mem_range.mp (pm.mem_iff.mp (by rw [hx]; simp))
      obtain ⟨s', r, e3, q', l'⟩ := p_drawB (b := b) q (by omega) (by omega)
      have ha2 : a ≤ 100000 := by omega
      simp [x__law_plan_5, ha2, hb2, e3]
      refine ⟨ts ++ [⟨a, andN r (2 ^ a), 0⟩], by simp [tri], q'.mono (by omega), ⟨by simp [hl'.1], by omega⟩, fun t ht' => ?_⟩
      rcases List.mem_append.mp ht' with ht' | ht'
      · exact ht t ht'
      · rw [List.mem_singleton.mp ht']
        exact ⟨ha, andN_lt l', andN_bit _ _, by show 0 ≤ 1; omega⟩)
    have e3 := p_law_made (b := b) (ts := ts) (by omega) (by omega) ht
    refine ⟨s3, made b ts, ?_, q3.mono (by omega), (made_ok ht).1⟩
    simp [d__law_plan, b__law_plan, e1, e2, e, e3]
end PG
namespace Gf
theorem perm_rangeG {n : Nat} {xs : List Nat} (h1 : xs.Nodup) (h2 : ∀ x ∈ xs, x < n) (h3 : xs.length = n) : xs.Perm (List.range n) := by
  refine (List.perm_ext_iff_of_nodup h1 List.nodup_range).mpr fun a => ⟨fun h => List.mem_range.mpr (h2 a h), fun h => ?_⟩
  have ha := List.mem_range.mp h
  by_cases q : a ∈ xs
  · exact q
  · have := nodup_le (n := n) (List.nodup_cons.mpr ⟨q, h1⟩) fun x hx => by
      rcases List.mem_cons.mp hx with rfl | hx
      · exact ha
      · exact h2 x hx
    rw [List.length_cons, h3] at this
    omega
section
variable {b : Nat} {m n : Mp}
theorem Map.surj (h : Map b m) {y : Nat} (hy : y < 2 ^ b) : ∃ x, x < 2 ^ b ∧ vec m.1 x = y := by
  have nd : ((List.range (2 ^ b)).map (vec m.1)).Nodup := List.pairwise_map.mpr (List.Pairwise.imp_of_mem (fun {p q} hp hq hn e => hn (by
    have : vec m.1 (p ^^^ q) = 0 := by rw [vec_xor, e, Nat.xor_self]
    exact xor_eq_zero.mp (vec_inj h (Nat.xor_lt_two_pow (List.mem_range.mp hp) (List.mem_range.mp hq)) this))) List.nodup_range)
  have hp : ((List.range (2 ^ b)).map (vec m.1)).Perm (List.range (2 ^ b)) := perm_rangeG nd (fun x hx => by
    obtain ⟨y, _, rfl⟩ := List.mem_map.mp hx
    rw [← h.len]
    exact vec_lt _ _) (by simp)
  obtain ⟨x, hx, e⟩ := List.mem_map.mp (hp.mem_iff.mpr (List.mem_range.mpr hy))
  exact ⟨x, List.mem_range.mp hx, e⟩
theorem Map.ind (h : Map b m) {p : Nat} (hp : p < 2 ^ b) (e : sel m.1 p = 0) : p = 0 := by
  refine Nat.eq_of_testBit_eq fun i => ?_
  rw [Nat.zero_testBit]
  by_cases hi : i < b
  · obtain ⟨x, _, hx⟩ := h.surj (Nat.pow_lt_pow_right (a := 2) (by decide) hi)
    have := par_sel m.1 p x
    rw [e, hx, Nat.zero_and, par_zero, par_and_pow] at this
    exact this.symm
  · exact Nat.testBit_lt_two_pow (Nat.lt_of_lt_of_le hp (Nat.pow_le_pow_right (by decide) (by omega)))
theorem Map.of_ind (len : m.1.length = b) (row : ∀ r ∈ m.1, r < 2 ^ b) (off : m.2 < 2 ^ b) (inj : ∀ p, p < 2 ^ b → sel m.1 p = 0 → p = 0) : Map b m := by
  refine Map.of_rk len row off ?_
  have nd : ((List.range (2 ^ b)).map (sel m.1)).Nodup := List.pairwise_map.mpr (List.Pairwise.imp_of_mem (fun {p q} hp hq h e => h (by
    have := inj (p ^^^ q) (Nat.xor_lt_two_pow (List.mem_range.mp hp) (List.mem_range.mp hq)) (by rw [sel_xor, e, Nat.xor_self])
    exact xor_eq_zero.mp this)) List.nodup_range)
  have : Lists m.1 ((List.range (2 ^ b)).map (sel m.1)) := by
    refine ⟨nd, fun x => ?_⟩
    rw [List.mem_map]
    constructor
    · rintro ⟨p, _, rfl⟩; exact sel_span _ _
    · intro h
      obtain ⟨p, h1, h2⟩ := span_sel h
      rw [len] at h1
      exact ⟨p, List.mem_range.mpr h1, h2⟩
  have := this.length
  rw [List.length_map, List.length_range] at this
  exact ((Nat.pow_right_inj (a := 2) (by decide)).mp this).symm
/-- n behind m -/
def behind (m n : Mp) : Mp := (n.1.map (sel m.1), app n m.2)
theorem sel_sel (rs : List Nat) : ∀ (ns : List Nat) (p : Nat), sel (ns.map (sel rs)) p = sel rs (sel ns p)
  | [], p => by simp [sel, sel_zero]
  | n :: ns, p => by
    simp only [List.map_cons, sel, sel_xor, sel_sel rs ns]
    congr 1
    split
    · rfl
    · rw [sel_zero]
theorem vec_sel (rs : List Nat) (ns : List Nat) (x : Nat) : vec (ns.map (sel rs)) x = vec ns (vec rs x) := by
  refine Nat.eq_of_testBit_eq fun i => ?_
  rw [vec_bit, vec_bit, List.getElem?_map]
  cases ns[i]? with
  | none => rfl
  | some n => exact par_sel rs n x
theorem app_behind (m n : Mp) (x : Nat) : app (behind m n) x = app n (app m x) := by
  unfold behind app
  rw [vec_sel, vec_xor, Nat.xor_assoc]
theorem Map.behind (h : Map b m) (k : Map b n) : Map b (behind m n) := by
  refine Map.of_ind ?_ (fun r hr => ?_) (app_lt k _) fun p hp e => ?_
  · show (n.1.map _).length = b
    rw [List.length_map, k.len]
  · obtain ⟨x, hx, rfl⟩ := List.mem_map.mp hr
    exact (sel_span _ _).bound h.row
  · have e : sel (n.1.map (sel m.1)) p = 0 := e
    rw [sel_sel] at e
    exact k.ind hp (h.ind ((sel_span _ _).bound k.row) e)
/-- a mapping is told by its ends -/
theorem app_ext (h : Map b m) (k : Map b n) (e : ∀ x, x < 2 ^ b → app m x = app n x) : m = n := by
  have e0 : m.2 = n.2 := by
    have := e 0 (Nat.two_pow_pos b)
    unfold app at this
    rwa [vec_zero, vec_zero, Nat.xor_zero, Nat.xor_zero] at this
  have e1 : ∀ x, x < 2 ^ b → vec m.1 x = vec n.1 x := fun x hx => by
    have := e x hx
    unfold app at this
    rw [e0] at this
    have := congrArg (n.2 ^^^ ·) this
    simpa only [xor_x] using this
  have e2 : m.1 = n.1 := by
    apply List.ext_getElem
    · rw [h.len, k.len]
    · intro i h1 h2
      refine Nat.eq_of_testBit_eq fun j => ?_
      by_cases hj : j < b
      · have := congrArg (·.testBit i) (e1 (2 ^ j) (Nat.pow_lt_pow_right (by decide) hj))
        simp only [vec_bit' _ h1, vec_bit' _ h2, par_and_pow] at this
        exact this
      · have q : ∀ r, r < 2 ^ b → r.testBit j = false := fun r hr => Nat.testBit_lt_two_pow (Nat.lt_of_lt_of_le hr (Nat.pow_le_pow_right (by decide) (by omega)))
        rw [q _ (h.row _ (List.getElem_mem h1)), q _ (k.row _ (List.getElem_mem h2))]
  exact Prod.ext e2 e0
end
/-- f and g lead back, on so many places -/
structure Inv (N : Nat) (f g : Nat → Nat) : Prop where
  fl : ∀ x, x < N → f x < N
  gl : ∀ x, x < N → g x < N
  gf : ∀ x, x < N → g (f x) = x
  fg : ∀ x, x < N → f (g x) = x
end Gf
namespace PG
open DN Gf
open L2 (Key)
open PySem (PyData Str)
theorem p_bits_of {n k : Nat} (hn : n < 2 ^ k) (hk : k ≤ 1000) : d_bits_of [iN n] = .ok [] (.own (.lst ((bitsN n).map iN))) := by
  have hb := blen_le hn
  have e := lc_filter (g := store 1) (t := x_bits_of_1) (f := dVar 1) (vs := [1]) (ρ := [.ln (iN n), .un]) iN (fun i => n.testBit i) iN (xs := List.range (blen n)) (fun i hi => by
    cases h : n.testBit i <;> simp [x_bits_of_1, h]) (by simp; omega)
  have e2 : (List.range (blen n)).filter (fun i => n.testBit i) = bitsN n := rfl
  rw [e2] at e
  have hb2 : blen n ≤ 1000000 := by omega
  simp [d_bits_of, b_bits_of, hb2, e]
theorem p_put_together {rs is : List Nat} (h : ∀ i ∈ is, i < rs.length) : d_put_together [.lst (rs.map iN), .lst (is.map iN)] = .ok [] (.fz (iN (is.foldl (fun a i => a ^^^ rs.getD i 0) 0))) := by
  obtain ⟨ρ', e, y, rfl⟩ := loop_l (g := store 3) (b := x_put_together_1) iN (fun d ρ => ∃ y, ρ = [.ln (.lst (rs.map iN)), .ln (.lst (is.map iN)), .fz (iN (d.foldl (fun a i => a ^^^ rs.getD i 0) 0)), y]) (xs := is) (ρ := [.ln (.lst (rs.map iN)), .ln (.lst (is.map iN)), .fz (iN 0), .un]) ⟨_, rfl⟩ (by
    rintro d i u ρ hx ⟨y, rfl⟩
    have hi := h i (by rw [hx]; simp)
    rw [List.foldl_append]
    generalize d.foldl (fun a i => a ^^^ rs.getD i 0) 0 = z
    simp [x_put_together_1, hi, List.getD])
  simp [d_put_together, b_put_together, e]
theorem bits_idx {rs : List Nat} {p : Nat} (h : p < 2 ^ rs.length) : ∀ i ∈ bitsN p, i < rs.length := fun i hi => by
  have := mem_bitsN.mp hi
  rcases Nat.lt_or_ge i rs.length with q | q
  · exact q
  · rw [Nat.testBit_lt_two_pow (two_lt h q)] at this
    cases this
/-- rows put together by a mask -/
theorem p_put_bits {rs : List Nat} {p : Nat} (h : p < 2 ^ rs.length) : d_put_together [.lst (rs.map iN), .lst ((bitsN p).map iN)] = .ok [] (.fz (iN (sel rs p))) := by
  rw [p_put_together (bits_idx h), sel_bits h]
theorem p_behind {b : Nat} {m n : Mp} (hb : b ≤ 99) (h : Map b m) (k : Map b n) : d_behind [.tup [.lst (m.1.map iN), iN m.2], .tup [.lst (n.1.map iN), iN n.2]] = .ok [] (.tp [.own (.lst ((behind m n).1.map iN)), .fz (iN (behind m n).2)]) := by
  have e := lc_map (g := store 4) (t := dYes) (f := x_behind_1) (vs := [4]) (ρ := [.fz (.tup [.lst (m.1.map iN), iN m.2]), .fz (.tup [.lst (n.1.map iN), iN n.2]), .fz (.lst (m.1.map iN)), .fz (iN m.2), .un]) iN (fun r => iN (sel m.1 r)) (xs := n.1) (fun r hr => by
    have hr2 : r < 2 ^ m.1.length := by rw [h.len]; exact k.row r hr
    have e1 := p_bits_of (k := b) (k.row r hr) (by omega)
    have e2 := p_put_bits hr2
    simp [x_behind_1, e1, e2]) (by rw [k.len]; omega)
  have e3 := p_moved (rs := n.1) (o := n.2) (x := m.2) (by rw [k.len]; omega) (fun r hr => two_lt (k.row r hr) (by omega))
  simp [d_behind, b_behind, e, e3, Gf.behind]
theorem p_identity {b : Nat} (hb : b ≤ 399) : d_identity [iN b] = .ok [] (.tp [.own (.lst ((idM b).1.map iN)), .fz (iN 0)]) := by
  have e2 := lc_map (g := store 1) (t := dYes) (f := x_identity_1) (vs := [1]) (ρ := [.ln (iN b), .un]) iN (fun i => iN (2 ^ i)) (xs := List.range b) (fun i hi => by
    have hi := List.mem_range.mp hi
    have h1 : i ≤ 100000 := by omega
    simp [x_identity_1, h1]) (by simp; omega)
  have hb2 : b ≤ 1000000 := by omega
  simp [d_identity, b_identity, hb2, e2, idM]
theorem p_then {b : Nat} {m n : Mp} (h1 : 1 ≤ b) (hb : b ≤ 60) (h : Map b m) (k : Map b n) : d_then [.tup [.lst (m.1.map iN), iN m.2], .tup [.lst (n.1.map iN), iN n.2]] = .ok [] (.tp [.own (.lst ((behind m n).1.map iN)), .fz (iN (behind m n).2)]) := by
  have e1 := p_need_mapping h1 hb h
  have e2 := p_need_mapping h1 hb k
  have e3 := p_behind (by omega) h k
  have h2 := h.len
  have k2 := k.len
  have e4 : d_need_like [iN b, .tup [.lst (n.1.map iN), iN n.2]] = .ok [] (.fz .non) := by simp [d_need_like, b_need_like, k2]
  simp [d_then, b_then, e1, e2, h2, e4, e3]
theorem Back.inv {b : Nat} {m n : Mp} (h : Map b m) (k : Back b m n) : Inv (2 ^ b) (app m) (app n) := ⟨fun x _ => app_lt h x, fun x _ => app_lt k.map x, k.back, k.forth⟩
end PG
namespace Gf
/-- the place of a value with the bits of S of its end and the others of its first place -/
def wk (rs : List Nat) (S x : Nat) : Nat := x ^^^ ((x ^^^ vec rs x) &&& S)
theorem wk_bit (rs : List Nat) (S x i : Nat) : (wk rs S x).testBit i = if S.testBit i = true then (vec rs x).testBit i else x.testBit i := by
  unfold wk
  rw [Nat.testBit_xor, Nat.testBit_and, Nat.testBit_xor]
  cases S.testBit i <;> cases x.testBit i <;> cases (vec rs x).testBit i <;> rfl
theorem wk_lt {b : Nat} {rs : List Nat} (hl : rs.length = b) (S : Nat) {x : Nat} (hx : x < 2 ^ b) : wk rs S x < 2 ^ b := by
  refine Nat.lt_pow_two_of_testBit _ fun i hi => ?_
  have h1 : x.testBit i = false := Nat.testBit_lt_two_pow (Nat.lt_of_lt_of_le hx (Nat.pow_le_pow_right (by decide) hi))
  have h2 : (vec rs x).testBit i = false := Nat.testBit_lt_two_pow (Nat.lt_of_lt_of_le (vec_lt rs x) (Nat.pow_le_pow_right (by decide) (by omega)))
  rw [wk_bit, h1, h2]
  split <;> rfl
/-- one bit more -/
theorem wk_more {rs : List Nat} {S a x : Nat} (ha : S.testBit a = false) (hl : a < rs.length) : wk rs (S ^^^ 2 ^ a) x = wk rs S x ^^^ (x.testBit a ^^ par (rs[a] &&& x)).toNat * 2 ^ a := by
  apply Nat.eq_of_testBit_eq
  intro i
  rw [Nat.testBit_xor, bit_one, wk_bit, wk_bit, Nat.testBit_xor, Nat.testBit_two_pow]
  by_cases h : a = i
  · subst h
    rw [ha, vec_bit' x hl]
    cases x.testBit a <;> cases par (rs[a] &&& x) <;> simp
  · have h' : ¬ i = a := fun e => h e.symm
    simp [h, h']
/-- the first bits, told by the present ones -/
structure Srcs (b : Nat) (rs : List Nat) (S : Nat) (src : List Nat) : Prop where
  len : src.length = b
  lt : ∀ s ∈ src, s < 2 ^ b
  inv : ∀ x, x < 2 ^ b → vec src (wk rs S x) = x
def lmask (rs src : List Nat) (a : Nat) : Nat := sel src (rs.getD a 0)
def nsrc (src : List Nat) (a m : Nat) : List Nat := src.map fun s => if s.testBit a = true then s ^^^ m else s
theorem sel_lt {b : Nat} {rs : List Nat} (h : ∀ r ∈ rs, r < 2 ^ b) (p : Nat) : sel rs p < 2 ^ b := (sel_span rs p).bound h
section
variable {b : Nat} {rs src : List Nat} {S a : Nat}
theorem Srcs.told (h : Srcs b rs S src) (hl : a < rs.length) {x : Nat} (hx : x < 2 ^ b) : par (lmask rs src a &&& wk rs S x) = par (rs[a] &&& x) := by
  unfold lmask
  rw [par_sel, h.inv x hx]
  congr 2
  rw [List.getD_eq_getElem?_getD, List.getElem?_eq_getElem hl]
  rfl
theorem lmask_lt (h : Srcs b rs S src) : lmask rs src a < 2 ^ b := sel_lt h.lt _
theorem Srcs.step (hr : rs.length = b) (h : Srcs b rs S src) (ha : a < b) (hS : S.testBit a = false) (ht : (lmask rs src a).testBit a = true) : Srcs b rs (S ^^^ 2 ^ a) (nsrc src a (lmask rs src a ^^^ 2 ^ a)) := by
  have hm : lmask rs src a ^^^ 2 ^ a < 2 ^ b := Nat.xor_lt_two_pow (lmask_lt h) (Nat.pow_lt_pow_right (by decide) ha)
  have hm0 : (lmask rs src a ^^^ 2 ^ a).testBit a = false := by rw [Nat.testBit_xor, ht, Nat.testBit_two_pow]; simp
  refine ⟨by unfold nsrc; rw [List.length_map, h.len], fun s hs => ?_, fun x hx => ?_⟩
  · obtain ⟨t, ht, rfl⟩ := List.mem_map.mp hs
    split
    · exact Nat.xor_lt_two_pow (h.lt t ht) hm
    · exact h.lt t ht
  · have hx2 := h.inv x hx
    have hy := h.told (a := a) (by omega) hx
    rw [wk_more hS (by omega)]
    apply Nat.eq_of_testBit_eq
    intro i
    by_cases hi : i < b
    · have hi2 : i < src.length := by rw [h.len]; exact hi
      have e1 : x.testBit i = par (src[i] &&& wk rs S x) := by rw [← vec_bit' _ hi2, hx2]
      have hi3 : i < (nsrc src a (lmask rs src a ^^^ 2 ^ a)).length := by unfold nsrc; rw [List.length_map]; exact hi2
      rw [vec_bit' _ hi3, e1]
      have e2 : (nsrc src a (lmask rs src a ^^^ 2 ^ a))[i] = if src[i].testBit a = true then src[i] ^^^ (lmask rs src a ^^^ 2 ^ a) else src[i] := List.getElem_map _
      rw [e2]
      have hwa : (wk rs S x).testBit a = x.testBit a := by rw [wk_bit, hS]; simp
      generalize wk rs S x = u at *
      generalize lmask rs src a = mk at *
      have hd : ∀ (z : Nat) (c : Bool), par (z &&& c.toNat * 2 ^ a) = (z.testBit a && c) := fun z c => by
        cases c
        · simp [par_zero]
        · simp only [Bool.toNat_true, Nat.one_mul, par_and_pow]; simp
      have e3 : par (mk &&& u) = (par ((mk ^^^ 2 ^ a) &&& u) ^^ u.testBit a) := by
        have : mk = (mk ^^^ 2 ^ a) ^^^ 2 ^ a := (xor_d _ _).symm
        conv => lhs; rw [this]
        rw [par_xor_and, Nat.and_comm (2 ^ a) u, par_and_pow]
      rw [e3] at hy
      generalize mk ^^^ 2 ^ a = m at *
      split
      · rename_i hs
        rw [par_and_xor, hd, par_xor_and, Nat.testBit_xor, hs, hm0, ← hy, hwa]
        cases par (src[i] &&& u) <;> cases par (m &&& u) <;> cases x.testBit a <;> rfl
      · rename_i hs
        have hs : src[i].testBit a = false := Bool.eq_false_iff.mpr hs
        rw [par_and_xor, hd, hs]
        simp
    · have h1 : x.testBit i = false := Nat.testBit_lt_two_pow (Nat.lt_of_lt_of_le hx (Nat.pow_le_pow_right (by decide) (by omega)))
      rw [h1]
      refine Nat.testBit_lt_two_pow (Nat.lt_of_lt_of_le (vec_lt _ _) (Nat.pow_le_pow_right (by decide) ?_))
      unfold nsrc
      rw [List.length_map, h.len]
      omega
/-- values are at unlike places -/
def Sep (b : Nat) (rs : List Nat) (S : Nat) : Prop := ∀ x y, x < 2 ^ b → y < 2 ^ b → wk rs S x = wk rs S y → x = y
theorem Sep.surj (hr : rs.length = b) (h : Sep b rs S) {u : Nat} (hu : u < 2 ^ b) : ∃ x, x < 2 ^ b ∧ wk rs S x = u := by
  have p : ((List.range (2 ^ b)).map (wk rs S)).Perm (List.range (2 ^ b)) := by
    refine perm_rangeG ?_ (fun x hx => ?_) (by simp)
    · exact (List.pairwise_map).mpr (List.nodup_range.imp_of_mem fun {x y} hx hy ne e => ne (h x y (List.mem_range.mp hx) (List.mem_range.mp hy) e))
    · obtain ⟨y, hy, rfl⟩ := List.mem_map.mp hx
      exact wk_lt hr S (List.mem_range.mp hy)
  obtain ⟨x, hx, e⟩ := List.mem_map.mp (p.mem_iff.mpr (List.mem_range.mpr hu))
  exact ⟨x, List.mem_range.mp hx, e⟩
end
end Gf
namespace PG
open DN Gf
end PG
namespace DN
open L2 (kitB atI ixN Key)
open PySem (PyData Str)
/-- shown within a depth and a length -/
inductive Rk : Nat → Nat → D → Prop where
  | non : Rk 0 10 .non
  | bl {b} : Rk 0 10 (.bl b)
  | int {i : Int} {k : Nat} : i.natAbs < 2 ^ k → k ≤ 1900 → Rk 0 (k + 10) (.int i)
  | str {x k} : (PyData.shown (.str x)).length ≤ k → Rk 0 k (.str x)
  | dct : Rk 1 10 (.dct [])
  | lst {n k m ds} : (∀ d ∈ ds, Rk n k d) → ds.length ≤ m → Rk (n + 1) ((k + 2) * m + 3) (.lst ds)
  | tup {n k m ds} : (∀ d ∈ ds, Rk n k d) → ds.length ≤ m → Rk (n + 1) ((k + 2) * m + 3) (.tup ds)
  | mono {n k n' k' d} : Rk n k d → n ≤ n' → k ≤ k' → Rk n' k' d
structure RkP (n k : Nat) (p : PyData) : Prop where
  sh : p.showable = true
  dp : p.depth ≤ n
  ln : p.shown.length ≤ k
theorem RkP.all {n k : Nat} : ∀ {ds : List D}, (∀ d ∈ ds, ∃ p, pyR d = some p ∧ RkP n k p) → ∃ ps, pysR ds = some ps ∧ PyData.showableAll ps = true ∧ PyData.depthAll ps ≤ n ∧ ((PyData.shownAll ps).map (·.length)).sum ≤ k * ds.length ∧ (PyData.shownAll ps).length = ds.length
  | [], _ => ⟨[], rfl, rfl, Nat.zero_le _, Nat.le_refl _, rfl⟩
  | d :: ds, h => by
    obtain ⟨p, e, q⟩ := h d List.mem_cons_self
    obtain ⟨ps, e2, h1, h2, h3, h4⟩ := RkP.all (ds := ds) fun x hx => h x (List.mem_cons_of_mem _ hx)
    refine ⟨p :: ps, by rw [pysR, e, e2], ?_, ?_, ?_, ?_⟩
    · rw [PyData.showableAll, q.sh, h1]; rfl
    · rw [PyData.depthAll]; exact Nat.max_le.mpr ⟨q.dp, h2⟩
    · have := q.ln
      simp only [PyData.shownAll, List.map_cons, List.sum_cons, List.length_cons, Nat.mul_succ]
      omega
    · simp [PyData.shownAll, h4]
theorem Rk.ok {n k : Nat} {d : D} (h : Rk n k d) : ∃ p, pyR d = some p ∧ RkP n k p := by
  induction h with
  | non => exact ⟨_, rfl, rfl, Nat.le_refl _, by decide⟩
  | @bl b => exact ⟨_, rfl, rfl, Nat.le_refl _, by cases b <;> decide⟩
  | @int i k h1 h2 =>
    have hx : i.natAbs.log2 < k + 1 := by
      by_cases h0 : i.natAbs = 0
      · rw [h0]
        show Nat.log2 0 < _
        rw [Nat.log2_zero]
        omega
      · exact Nat.lt_succ_of_lt ((Nat.log2_lt h0).mpr h1)
    refine ⟨_, rfl, decide_eq_true (by omega), Nat.le_refl _, ?_⟩
    have := PySem.int_text_length_le (a := i) (k := k + 1) (by omega) hx
    rw [PyData.shown]
    show (Str.ofString (toString i)).length ≤ _
    rw [PySem.ofString_length]
    omega
  | str h => exact ⟨_, rfl, rfl, Nat.le_refl _, h⟩
  | dct => exact ⟨.dict [], rfl, by decide +kernel, by decide +kernel, by decide +kernel⟩
  | @lst n k m ds h hm ih =>
    obtain ⟨ps, e, h1, h2, h3, h4⟩ := RkP.all ih
    have := PySem.listText_len_le (PyData.shownAll ps)
    have h5 : (k + 2) * ds.length ≤ (k + 2) * m := Nat.mul_le_mul_left _ hm
    have h6 : (k + 2) * ds.length = k * ds.length + 2 * ds.length := Nat.add_mul _ _ _
    refine ⟨.list ps, by rw [pyR, e]; rfl, by rw [PyData.showable]; exact h1, by rw [PyData.depth]; omega, ?_⟩
    rw [PyData.shown]
    omega
  | @tup n k m ds h hm ih =>
    obtain ⟨ps, e, h1, h2, h3, h4⟩ := RkP.all ih
    have := PySem.tupleText_len_le (PyData.shownAll ps)
    have h5 : (k + 2) * ds.length ≤ (k + 2) * m := Nat.mul_le_mul_left _ hm
    have h6 : (k + 2) * ds.length = k * ds.length + 2 * ds.length := Nat.add_mul _ _ _
    refine ⟨.tuple ps, by rw [pyR, e]; rfl, by rw [PyData.showable]; exact h1, by rw [PyData.depth]; omega, ?_⟩
    rw [PyData.shown]
    omega
  | mono h h1 h2 ih =>
    obtain ⟨p, e, q⟩ := ih
    exact ⟨p, e, q.sh, Nat.le_trans q.dp h1, Nat.le_trans q.ln h2⟩
theorem Rk.nat {x k : Nat} (h : x < 2 ^ k) (hk : k ≤ 1900 := by decide) : Rk 0 (k + 10) (iN x) := .int (by rw [Int.natAbs_natCast]; exact h) hk
theorem Rk.lstM {α : Type} {n k m : Nat} {f : α → D} {xs : List α} (h : ∀ x ∈ xs, Rk n k (f x)) (hm : xs.length ≤ m) : Rk (n + 1) ((k + 2) * m + 3) (.lst (xs.map f)) :=
  .lst (fun d hd => by
    obtain ⟨x, hx, rfl⟩ := List.mem_map.mp hd
    exact h x hx) (by rw [List.length_map]; exact hm)
theorem Rk.nats {k m : Nat} {xs : List Nat} (h : ∀ x ∈ xs, x < 2 ^ k) (hm : xs.length ≤ m) (hk : k ≤ 1900 := by decide) : Rk 1 ((k + 12) * m + 3) (.lst (xs.map iN)) :=
  .lstM (n := 0) (k := k + 10) (fun x hx => .nat (h x hx) hk) hm
theorem eqD_bl (a b : Bool) : eqD (.bl a) (.bl b) = some (decide (a = b)) := by cases a <;> cases b <;> decide +kernel
@[simp] theorem gEq2_bl (a b : Bool) : gEq2 (.bl a) (.bl b) = some (.fz (.bl (decide (a = b)))) := gEq2_of (eqD_bl a b) rfl
@[simp] theorem gNe2_bl (a b : Bool) : gNe2 (.bl a) (.bl b) = some (.fz (.bl (!decide (a = b)))) := gNe2_of (eqD_bl a b) rfl
theorem shaped_enc {α : Type} [Enc α] (hd : Enc.dep α ≤ 64) (x : α) : PySem.SeqAt.shaped (Enc.pyo x) = true := by
  unfold PySem.SeqAt.shaped
  rw [Enc.h_lay, Bool.true_and, decide_eq_true_eq]
  exact Nat.le_trans (Enc.h_dep x) hd
theorem eqD_non_lst {α : Type} [Enc α] (hd : Enc.dep (List α) ≤ 64) (xs : List α) : eqD .non (.lst (xs.map Enc.enc)) = some false ∧ eqD (.lst (xs.map Enc.enc)) .non = some false := by
  have e : py (.lst (xs.map Enc.enc)) = some (Enc.pyo xs) := Enc.h_py (α := List α) xs
  have s := shaped_enc (α := List α) hd xs
  have s0 : PySem.SeqAt.shaped .none = true := by decide +kernel
  have p0 : py .non = some .none := rfl
  unfold eqD
  rw [e, p0]
  simp only [s, s0, Bool.and_self, if_true]
  exact ⟨congrArg some (by show PyData.eqv .none (.list _) = false; rw [PyData.eqv]), congrArg some (by show PyData.eqv (.list _) .none = false; rw [PyData.eqv])⟩
theorem gNeS_non (y : D) : gNeS .non y = none := by cases y <;> rfl
theorem gEqS_non (y : D) : gEqS .non y = none := by cases y <;> rfl
@[simp] theorem gNe2_non_tris (xs : List Tri) : gNe2 .non (.lst (xs.map tri)) = some (.fz (.bl true)) := gNe2_of (eqD_non_lst (α := Tri) (by decide) xs).1 (gNeS_non _)
@[simp] theorem gEq2_non_tris (xs : List Tri) : gEq2 .non (.lst (xs.map tri)) = some (.fz (.bl false)) := gEq2_of (eqD_non_lst (α := Tri) (by decide) xs).1 (gEqS_non _)
end DN
namespace PG
open DN Gf
open L2 (Key)
open PySem (PyData Str)
/-- a dict of bits that are known -/
def knK (d : List Nat) : List (Key × D) := d.map fun (i : Nat) => ((.inl (i : Int), .bl true) : Key × D)
theorem val_kn (d : List Nat) (i : Nat) : (valD (knK d) (.inl (i : Int))).isSome = decide (i ∈ d) := by
  induction d with
  | nil => rfl
  | cons p L ih =>
    unfold valD knK at ih ⊢
    rw [List.map_cons, List.find?_cons]
    by_cases h : p = i
    · subst h
      simp
    · have h' : ¬ ((p : Int) = (i : Int)) := by omega
      have h2 : ¬ i = p := fun e => h e.symm
      simp only [Sum.inl.injEq, h', decide_false]
      rw [ih]
      simp [h2]
theorem put_kn {d : List Nat} {i : Nat} (h : i ∉ d) : putD (knK d) (.inl (i : Int)) (.bl true) = knK (d ++ [i]) := by
  unfold putD knK
  rw [if_neg, List.map_append]
  · rfl
  · intro q
    obtain ⟨z, hz, e⟩ := List.any_eq_true.mp q
    obtain ⟨p', hp, rfl⟩ := List.mem_map.mp hz
    have e := of_decide_eq_true e
    simp only [Sum.inl.injEq] at e
    exact h (by have : p' = i := by omega
                rw [← this]; exact hp)
theorem knK_len (d : List Nat) : (knK d).length = d.length := List.length_map _
theorem p_are_bits {b : Nat} {π : List Nat} (h1 : 1 ≤ b) (hb : b ≤ 99) (hl : π.length ≤ b) (nd : π.Nodup) (hm : ∀ a ∈ π, a < b) : d_are_bits [iN b, .lst (π.map iN)] = .ok [] (.fz (.bl true)) := by
  obtain ⟨ρ', e, y, rfl⟩ := loop_l (g := store 3) (b := x_are_bits_1) iN (fun d ρ => ∃ y, ρ = [.ln (iN b), .ln (.lst (π.map iN)), .own (.dct (knK d)), y]) (xs := π) (ρ := [.ln (iN b), .ln (.lst (π.map iN)), .own (.dct []), .un]) ⟨_, rfl⟩ (by
    rintro d a u ρ hx ⟨y, rfl⟩
    have hd := len_app hx
    have ha := hm a (by rw [hx]; simp)
    have hn : a ∉ d := by
      rw [hx] at nd
      exact fun q => (List.nodup_append.mp nd).2.2 a q a List.mem_cons_self rfl
    have e1 := p_is_integer a 0 (b - 1)
    have ha2 : a ≤ b - 1 := by omega
    have hk : (knK d).length ≤ 100000 := by rw [knK_len]; omega
    have e2 : gPut (.dct (knK d)) (iN a) (.bl true) = some (.dct (knK (d ++ [a]))) := by rw [gPut_dct hk, put_kn hn]
    have e3 : gIn (iN a) (.dct (knK d)) = some (.fz (.bl false)) := by rw [gIn_dct, val_kn, decide_eq_false hn]
    generalize knK (d ++ [a]) = k2 at *
    generalize knK d = k1 at *
    simp [x_are_bits_1, e1, ha2, h1, e2, e3])
  have hl2 : ¬ b < π.length := by omega
  have e' : dLoop (store 3) x_are_bits_1 (fzs (π.map iN)) [.ln (iN b), .ln (.lst (π.map iN)), .own (.dct []), .un] = _ := e
  simp [d_are_bits, b_are_bits, hl2, e]
/-- a mapping as a value -/
abbrev mD (m : Mp) : D := .tup [.lst (m.1.map iN), iN m.2]
def oN : Option Nat → D
  | none => .non
  | some n => iN n
end PG
namespace PG
open DN Gf
open L2 (Key)
open PySem (PyData Str)
theorem toNat_c {c : Nat} (h : c ≤ 1) : c = (decide (c = 1)).toNat := by
  have : c = 0 ∨ c = 1 := by omega
  rcases this with h | h <;> rw [h] <;> rfl
theorem stg_shl {b a c z : Nat} {p : Bool} (ha : a ≤ 99) (hc : c ≤ 1) : gShl (iN (p.toNat ^^^ c)) (iN a) = some (.fz (iN ((p ^^ decide (c = 1)).toNat * 2 ^ a))) := by
  conv => lhs; rw [toNat_c hc]
  rw [toNat_xor]
  exact gShl_N 1 (by have := bool_le (p ^^ decide (c = 1)); omega) (by omega)
theorem p_made_by {b : Nat} {ts : List Tri} (hb : b ≤ 99) (ht : ∀ t ∈ ts, Stg b t) : d_made_by [iN b, .lst (ts.map tri)] = .ok [] (.tp [.own (.lst ((made b ts).1.map iN)), .fz (iN (made b ts).2)]) := by
  have e0 := p_identity (b := b) (by omega)
  obtain ⟨ρ', e, y4, y5, y6, rfl⟩ := loop_l (g := storeN [4, 5, 6]) (b := x_made_by_1) tri (fun d ρ => ∃ y4 y5 y6, ρ = [.ln (iN b), .ln (.lst (ts.map tri)), .own (.lst ((made b d).1.map iN)), .fz (iN (made b d).2), y4, y5, y6]) (xs := ts) (ρ := [.ln (iN b), .ln (.lst (ts.map tri)), .own (.lst ((made b []).1.map iN)), .fz (iN 0), .un, .un, .un]) ⟨_, _, _, rfl⟩ (by
    rintro d t u ρ hx ⟨y4, y5, y6, rfl⟩
    have ht' := ht t (by rw [hx]; simp)
    obtain ⟨hm, _⟩ := made_ok (b := b) (ts := d) fun s hs => ht s (by rw [hx]; simp [hs])
    obtain ⟨q1, q2, q3, q4⟩ := ht'
    rw [made_snoc]
    unfold mstep
    generalize made b d = m at *
    obtain ⟨rs, o⟩ := m
    have hrl : rs.length = b := hm.len
    have ho : o < 2 ^ b := hm.off
    have ha : t.a < rs.length := by omega
    have hg : rs.getD t.a 0 = rs[t.a] := by simp [List.getD, ha]
    have e1 := p_bits_of (k := b) q2 (by omega)
    have e2 := p_put_bits (rs := rs) (p := t.b) (by rw [hrl]; exact q2)
    have e3 := p_parity (n := t.b &&& o) (lt_128 (and_lt q2) (by omega))
    have e4 := stg_shl (b := b) (z := 0) (a := t.a) (c := t.c) (p := par (t.b &&& o)) (by omega) q4
    simp only [hg, ← set_map]
    simp [x_made_by_1, tri, ha, e1, e2, e3, e4, stg, -List.map_set])
  have e' : dLoop (storeN [4, 5, 6]) x_made_by_1 (fzs (ts.map tri)) [.ln (iN b), .ln (.lst (ts.map tri)), .own (.lst ((idM b).1.map iN)), .fz (iN 0), .un, .un, .un] = _ := e
  simp [d_made_by, b_made_by, e0, e']
end PG
namespace PG
open DN Gf
open L2 (Key)
open PySem (PyData Str)
def dd (ns : List Int) : List Int := ns.foldl PyProof.Rows.step_dedup []
theorem snoc_ind {α : Type} {P : List α → Prop} (h0 : P []) (h1 : ∀ xs x, P xs → P (xs ++ [x])) : ∀ xs, P xs := fun xs => by
  have : ∀ ys : List α, P ys.reverse := by
    intro ys
    induction ys with
    | nil => exact h0
    | cons y ys ih => rw [List.reverse_cons]; exact h1 _ _ ih
  rw [← List.reverse_reverse xs]
  exact this _
theorem sum_pows {b : Nat} : ∀ {is : List Nat}, is.Nodup → (∀ i ∈ is, i < b) → (is.map fun i => 2 ^ i).sum = mk is
  | [], _, _ => rfl
  | i :: is, nd, h => by
    have ih := sum_pows (b := b) (List.nodup_cons.mp nd).2 fun j hj => h j (List.mem_cons_of_mem _ hj)
    rw [List.map_cons, List.sum_cons, ih, mk_cons]
    have h0 : (mk is).testBit i = false := by
      rw [mk_bit i (List.nodup_cons.mp nd).2]
      exact decide_eq_false (List.nodup_cons.mp nd).1
    have q := xor_add (2 ^ i) (mk is)
    have : 2 ^ i &&& mk is = 0 := by rw [Nat.and_comm, and_pow, h0]; simp
    rw [this] at q
    omega
theorem mk_lt {b : Nat} {is : List Nat} (nd : is.Nodup) (h : ∀ i ∈ is, i < b) : mk is < 2 ^ b := by
  refine Nat.lt_pow_two_of_testBit _ fun i hi => ?_
  rw [mk_bit i nd]
  exact decide_eq_false fun hm => by have := h i hm; omega
end PG
namespace PG
open DN Gf
theorem stg_off {t : Tri} {x i : Nat} (h : i ≠ t.a) : (stg t x).testBit i = x.testBit i := by
  unfold stg
  rw [Nat.testBit_xor, bit_one, decide_eq_false h, Bool.and_false, Bool.xor_false]
end PG
namespace PG
open DN Gf
/-- columns of an invertible mapping -/
structure Ind (b : Nat) (c : List Nat) : Prop where
  len : c.length = b
  lt : ∀ r ∈ c, r < 2 ^ b
  ind : ∀ x, x < 2 ^ b → sel c x = 0 → x = 0
def span (L : List Nat) (x : Nat) : Prop := Span L x
/-- the columns ahead, cut down -/
def ahead (c d : List Nat) (T : Nat) : List Nat := d.map fun o => c.getD o 0 &&& T
theorem snocI {α : Type} {P : List α → Prop} (h0 : P []) (h1 : ∀ xs x, P xs → P (xs ++ [x])) : ∀ xs, P xs := fun xs => by
  have : ∀ ys : List α, P ys.reverse := by
    intro ys
    induction ys with
    | nil => exact h0
    | cons y ys ih => rw [List.reverse_cons]; exact h1 _ _ ih
  rw [← List.reverse_reverse xs]
  exact this _
theorem span_bit0 {t : Nat} : ∀ {L : List Nat} {x : Nat}, (∀ q ∈ L, q.testBit t = false) → Span L x → x.testBit t = false
  | [], x, _, h => by cases h; exact Nat.zero_testBit t
  | p :: r, x, q, h => by
    have q' := fun k hk => q k (List.mem_cons_of_mem _ hk)
    cases h with
    | out h => exact span_bit0 q' h
    | inn h => rw [Nat.testBit_xor, q p List.mem_cons_self, span_bit0 q' h]; rfl
/-- the rank of single bits -/
theorem rk_units : ∀ d : List Nat, d.Nodup → rk (d.map fun i => 2 ^ i) = d.length := by
  refine snocI (P := fun d => d.Nodup → rk (d.map fun i => 2 ^ i) = d.length) (fun _ => rfl) (fun d a ih nd => ?_)
  obtain ⟨n1, _, n3⟩ := List.nodup_append.mp nd
  rw [List.map_append, List.map_singleton, rk_snoc_out, ih n1, List.length_append]
  · rfl
  · intro hs
    have := span_bit0 (t := a) (fun q hq => by
      obtain ⟨i, hi, rfl⟩ := List.mem_map.mp hq
      rw [Nat.testBit_two_pow]
      exact decide_eq_false (n3 i hi a (List.mem_singleton.mpr rfl))) hs
    rw [Nat.testBit_two_pow] at this
    simp at this
theorem len_sub : ∀ {S T : List Nat}, S.Nodup → (∀ x ∈ S, x ∈ T) → S.length ≤ T.length
  | [], T, _, _ => Nat.zero_le _
  | x :: S, T, nd, h => by
    obtain ⟨n1, n2⟩ := List.nodup_cons.mp nd
    have hx := h x List.mem_cons_self
    have := len_sub (S := S) (T := T.erase x) n2 fun y hy => (List.mem_erase_of_ne (fun e => n1 (by rw [← e]; exact hy))).mpr (h y (List.mem_cons_of_mem _ hy))
    rw [List.length_erase_of_mem hx] at this
    have := List.length_pos_of_mem hx
    simp
    omega
theorem rk_le_len (ms : List Nat) : rk ms ≤ ms.length := rkFrom_le [] ms
theorem rk_mono {ms ns : List Nat} (h : ∀ x, Span ms x → Span ns x) : rk ms ≤ rk ns := by
  obtain ⟨S, h1, h2⟩ := lists_ex ms
  obtain ⟨T, k1, k2⟩ := lists_ex ns
  have : S.length ≤ T.length := len_sub h1.1 fun x hx => (k1.2 x).mpr (h x ((h1.2 x).mp hx))
  rw [h2, k2] at this
  exact (Nat.pow_le_pow_iff_right (by decide)).mp this
theorem Ind.surj {b : Nat} {c : List Nat} (h : Ind b c) {y : Nat} (hy : y < 2 ^ b) : ∃ x, x < 2 ^ b ∧ sel c x = y := by
  have p : ((List.range (2 ^ b)).map (sel c)).Perm (List.range (2 ^ b)) := by
    refine perm_rangeG ?_ (fun x hx => ?_) (by simp)
    · refine List.pairwise_map.mpr (List.nodup_range.imp_of_mem fun {x y} hx hy ne e => ne ?_)
      have := h.ind (x ^^^ y) (Nat.xor_lt_two_pow (List.mem_range.mp hx) (List.mem_range.mp hy)) (by rw [sel_xor, e, Nat.xor_self])
      exact xor_eq_zero.mp this
    · obtain ⟨y, hy, rfl⟩ := List.mem_map.mp hx
      exact List.mem_range.mpr (sel_lt h.lt y) |> List.mem_range.mp
  obtain ⟨x, hx, e⟩ := List.mem_map.mp (p.mem_iff.mpr (List.mem_range.mpr hy))
  exact ⟨x, List.mem_range.mp hx, e⟩
end PG
namespace PG
open DN Gf
open L2 (Key)
open PySem (PyData Str)
theorem p_mask_of {b : Nat} {is : List Nat} (hb : b ≤ 999) (nd : is.Nodup) (hi : ∀ i ∈ is, i < b) : d_mask_of [.lst (is.map iN)] = .ok [] (.fz (iN (mk is))) := by
  have hl : is.length ≤ b := Gf.nodup_le nd hi
  have e := lc_map (g := store 1) (t := dYes) (f := x_mask_of_1) (vs := [1]) (ρ := [.ln (.lst (is.map iN)), .un]) iN (fun i => iN (2 ^ i)) (xs := is) (fun i hm => by
    have := hi i hm
    have h1 : i ≤ 100000 := by omega
    simp [x_mask_of_1, h1]) (by omega)
  have e1 : (is.map fun i => iN (2 ^ i)) = (is.map fun i => 2 ^ i).map iN := by rw [List.map_map]; rfl
  rw [e1] at e
  have e2 := gSum_N (is.map fun i => 2 ^ i)
  rw [sum_pows nd hi] at e2
  generalize (is.map fun i => 2 ^ i).map iN = L at *
  simp [d_mask_of, b_mask_of, e, e2]
end PG
namespace PG
open DN Gf
open L2 (Key)
open PySem (PyData Str)
theorem p_indep_in {K : List Nat} {m : Nat} {x0 x2 x4 : Sl} : ∃ x, dLoop (store 4) x_independent_count_1 (fzs (K.map iN)) [x0, .ln (.lst (K.map iN)), x2, .fz (iN m), x4] = .ok [x0, .ln (.lst (K.map iN)), x2, .fz (iN (cnt K m)), x] .nx := by
  obtain ⟨ρ', e, x, rfl⟩ := loop_l (g := store 4) (b := x_independent_count_1) iN (fun d ρ => ∃ x, ρ = [x0, .ln (.lst (K.map iN)), x2, .fz (iN (cnt d m)), x]) (xs := K) (ρ := [x0, .ln (.lst (K.map iN)), x2, .fz (iN m), x4]) ⟨_, rfl⟩ (by
    rintro d k t ρ hx ⟨x, rfl⟩
    simp [x_independent_count_1, cnt_snoc])
  exact ⟨x, e⟩
theorem p_independent_count {ms : List Nat} (hl : ms.length ≤ 1000) : d_independent_count [.lst (ms.map iN)] = .ok [] (.fz (iN (rk ms))) := by
  obtain ⟨ρ', e, K, x2, x3, x4, rfl, hK, hKl⟩ := loop_l (g := store 2) (b := x_independent_count_2) iN (fun d ρ => ∃ (K : List Nat) (x2 x3 x4 : Sl), ρ = [.ln (.lst (ms.map iN)), .own (.lst (K.map iN)), x2, x3, x4] ∧ Kept K d ∧ K.length ≤ d.length)
    (xs := ms) (ρ := [.ln (.lst (ms.map iN)), .own (.lst []), .un, .un, .un]) ⟨[], _, _, _, rfl, ⟨fun x hx => (nomatch hx), Basis.nil⟩, Nat.le_refl _⟩ (by
    rintro d m t ρ hx ⟨K, x2, x3, x4, rfl, hK, hKl⟩
    have hd := len_app hx
    obtain ⟨y, ey⟩ := p_indep_in (K := K) (m := m) (x0 := .ln (.lst (ms.map iN))) (x2 := .fz (iN m)) (x4 := x4)
    obtain ⟨s1, s2⟩ := hK.step (m := m)
    have hK2 : K.length ≤ 100000 := by omega
    by_cases hz : cnt K m = 0
    · simp [x_independent_count_2, ey, hz]
      exact ⟨K, rfl, s1 hz, by omega⟩
    · have hz' : 0 < cnt K m := by omega
      simp [x_independent_count_2, ey, hz', hK2]
      exact ⟨K ++ [cnt K m], by simp, s2 hz, by simp; omega⟩)
  have hr : K.length = rk ms := by
    have := hK.bas.len
    unfold tops at this
    rwa [List.length_map] at this
  simp [d_independent_count, b_independent_count, e, hr]
/-- the rows of some bits, at the bits of a mask -/
def atB (rs : List Nat) (some twice : Nat) : List Nat := (bitsN some).map fun i => rs.getD i 0 &&& (some ||| twice)
noncomputable def freeB (rs : List Nat) (some twice : Nat) : Bool := decide (rk (atB rs some twice) = (atB rs some twice).length)
theorem p_is_independent {b : Nat} {m : Mp} {some twice : Nat} (hb : b ≤ 60) (h : Map b m) (hs : some < 2 ^ b) : d_is_independent [mD m, iN some, iN twice] = .ok [] (.fz (.bl (freeB m.1 some twice))) := by
  have e1 := p_bits_of (k := b) hs (by omega)
  have e2 := lc_map (g := store 4) (t := dYes) (f := x_is_independent_1) (vs := [4]) (ρ := [.ln (mD m), .ln (iN some), .ln (iN twice), .un, .un]) iN (fun i => iN (m.1.getD i 0 &&& (some ||| twice))) (xs := bitsN some) (fun i hi => by
    have hi2 := bits_idx (rs := m.1) (by rw [h.len]; exact hs) i hi
    simp [x_is_independent_1, mD, hi2, List.getD]) (by
    have := nodup_le (bitsN_nodup some) fun i hi => bits_idx (rs := m.1) (by rw [h.len]; exact hs) i hi
    have := h.len
    omega)
  have e3 : ((bitsN some).map fun i => iN (m.1.getD i 0 &&& (some ||| twice))) = (atB m.1 some twice).map iN := by unfold atB; rw [List.map_map]; rfl
  rw [e3] at e2
  have hl : (atB m.1 some twice).length ≤ 1000 := by
    unfold atB
    rw [List.length_map]
    have := nodup_le (bitsN_nodup some) fun i hi => bits_idx (rs := m.1) (by rw [h.len]; exact hs) i hi
    have := h.len
    omega
  have e4 := p_independent_count hl
  have hal : ((atB m.1 some twice).map iN).length = (atB m.1 some twice).length := List.length_map _
  unfold freeB
  generalize rk (atB m.1 some twice) = u at *
  generalize (atB m.1 some twice).length = v at *
  generalize (atB m.1 some twice).map iN = A at *
  simp only [mD] at *
  generalize (bitsN some).map iN = B at *
  generalize m.1.map iN = M1 at *
  simp [d_is_independent, b_is_independent, e1, e2, e4, hal]
/-- bits that some place has unlike its end -/
def chg (b : Nat) (m : Mp) : List Nat := (List.range b).filter fun i => !decide (m.1.getD i 0 = 2 ^ i) || m.2.testBit i
theorem chg_lt {b : Nat} {m : Mp} : ∀ i ∈ chg b m, i < b := fun i hi => List.mem_range.mp (List.mem_filter.mp hi).1
theorem chg_nd (b : Nat) (m : Mp) : (chg b m).Nodup := List.nodup_range.filter _
theorem p_changed_of {b : Nat} {m : Mp} (hb : b ≤ 60) (h : Map b m) : d_changed_of [mD m] = .ok [] (.own (.lst ((chg b m).map iN))) := by
  have hl := h.len
  have e := lc_enum (g := storeN [3, 4]) (t := x_changed_of_1) (f := dVar 3) (vs := [3, 4]) (ρ := [.fz (mD m), .fz (.lst (m.1.map iN)), .fz (iN m.2), .un, .un]) iN (fun i r => !decide (r = 2 ^ i) || m.2.testBit i) (fun i _ => iN i) (xs := m.1) (fun i r hi => by
    have hi2 : i < m.1.length := (List.getElem?_eq_some_iff.mp hi).1
    have hi3 : i ≤ 100000 := by omega
    by_cases q : r = 2 ^ i
    · cases q2 : m.2.testBit i <;> simp [x_changed_of_1, hi3, q, q2]
    · simp [x_changed_of_1, hi3, q]) (by omega)
  have e2 : ((m.1.zipIdx.filter fun q => !decide (q.1 = 2 ^ q.2) || m.2.testBit q.2).map fun q => iN q.2) = (chg b m).map iN := by
    have key : ∀ (rs : List Nat) (k : Nat), ((rs.zipIdx k).filter fun q => !decide (q.1 = 2 ^ q.2) || m.2.testBit q.2).map (fun q => q.2) = (List.range' k rs.length).filter fun i => !decide (rs.getD (i - k) 0 = 2 ^ i) || m.2.testBit i := by
      intro rs
      induction rs with
      | nil => intro k; rfl
      | cons r rs ih =>
        intro k
        have step : (List.range' (k + 1) rs.length).filter (fun i => !decide ((r :: rs).getD (i - k) 0 = 2 ^ i) || m.2.testBit i) = (List.range' (k + 1) rs.length).filter fun i => !decide (rs.getD (i - (k + 1)) 0 = 2 ^ i) || m.2.testBit i := by
          apply List.filter_congr
          intro i hi
          have hk := (List.mem_range'_1.mp hi).1
          have : i - k = (i - (k + 1)) + 1 := by omega
          rw [this, List.getD_cons_succ]
        rw [List.zipIdx_cons, List.length_cons, List.range'_succ, List.filter_cons, List.filter_cons, Nat.sub_self, List.getD_cons_zero, step, ← ih (k + 1)]
        split <;> rfl
    have := key m.1 0
    rw [hl, ← List.range_eq_range'] at this
    unfold chg
    simp only [Nat.sub_zero] at this
    rw [← this, List.map_map]
    rfl
  rw [e2] at e
  simp only [mD] at *
  generalize (chg b m).map iN = C at *
  generalize hM : m.1.map iN = M1 at *
  simp [d_changed_of, b_changed_of, e]
/-- the bits that are served once -/
def onceM (b : Nat) (m : Mp) (twice : Nat) : Nat := andN (mk (chg b m)) twice
theorem p_once_of {b : Nat} {m : Mp} {twice : Nat} (hb : b ≤ 60) (h : Map b m) : d_once_of [mD m, iN twice] = .ok [] (.fz (iN (onceM b m twice))) := by
  have e1 := p_changed_of hb h
  have e2 := p_mask_of (b := b) (by omega) (chg_nd b m) chg_lt
  unfold onceM
  generalize (chg b m).map iN = C at *
  generalize mk (chg b m) = u at *
  simp only [mD] at *
  generalize m.1.map iN = M1 at *
  simp [d_once_of, b_once_of, e1, e2]
end PG
namespace PG
open DN Gf
open L2 (Key)
open PySem (PyData Str)
theorem Rk.map {b : Nat} {m : Mp} (hb : b ≤ 60) (h : Map b m) : Rk 2 10000 (mD m) :=
  .mono (.tup (n := 1) (k := 4500) (m := 2) (fun d hd => by
    simp at hd
    rcases hd with rfl | rfl
    · exact .mono (Rk.nats (k := 60) (m := 60) (fun x hx => two_lt (h.row x hx) hb) (by rw [h.len]; exact hb)) (by decide) (by decide)
    · exact .mono (.nat (two_lt h.off hb) (by decide)) (by decide) (by decide)) (by simp)) (by decide) (by decide)
end PG
namespace PG
open DN Gf
open L2 (Key)
open PySem (PyData Str)
end PG
namespace PG
open DN Gf
open L2 (Key)
open PySem (PyData Str)
@[simp] theorem finPart_m1 (ρ : Env) : finPart ρ (some (ngD 1)) = .ok ρ (some (-1)) := nr rfl
end PG
namespace DN
open L2 (kitB atI ixN Key)
open PySem (PyData Str)
theorem inD_enc {α : Type} [Enc α] [DecidableEq α] (hd : Enc.dep (List α) ≤ 64) (hd1 : Enc.dep α ≤ 64) (x : α) (xs : List α) : inD (Enc.enc x) (.lst (xs.map Enc.enc)) = some (decide (x ∈ xs)) := by
  have s := shaped_enc (α := List α) hd xs
  have s : PySem.SeqAt.shaped (.list (xs.map Enc.pyo)) = true := s
  show inDeep _ _ = _
  unfold inDeep
  rw [Enc.h_py, pys_enc]
  simp only [shaped_enc hd1, s, Bool.and_self, if_true, Option.some.injEq]
  rw [Bool.eq_iff_iff, List.any_eq_true, decide_eq_true_eq]
  constructor
  · rintro ⟨z, hz, e⟩
    obtain ⟨y, hy, rfl⟩ := List.mem_map.mp hz
    rw [Enc.h_eqv] at e
    rw [← e]
    exact hy
  · exact fun h => ⟨Enc.pyo x, List.mem_map.mpr ⟨x, h, rfl⟩, (Enc.h_eqv x x).mpr rfl⟩
theorem gIn_Ns (x : Nat) (xs : List Nat) : gIn (iN x) (.lst (xs.map iN)) = some (.fz (.bl (decide (x ∈ xs)))) := by
  unfold gIn
  rw [show inD (iN x) (.lst (xs.map iN)) = some (decide (x ∈ xs)) from inD_enc (α := Nat) (by decide) (by decide) x xs]
  rfl
theorem gNotIn_Ns (x : Nat) (xs : List Nat) : gNotIn (iN x) (.lst (xs.map iN)) = some (.fz (.bl (!decide (x ∈ xs)))) := by
  unfold gNotIn
  rw [show inD (iN x) (.lst (xs.map iN)) = some (decide (x ∈ xs)) from inD_enc (α := Nat) (by decide) (by decide) x xs]
  rfl
end DN
namespace PG
open DN Gf
open L2 (Key)
open PySem (PyData Str)
end PG
namespace PG
open DN Gf
open L2 (Key)
open PySem (PyData Str)
def xs1 (ps ns : List Nat) : Nat := ns.foldl (fun a i => a ^^^ ps.getD i 0) 0
def ascB (ns : List Nat) : Bool := ((ns.zip (ns.drop 1)).map fun p => decide (p.1 < p.2)).all id
def clB (ps : List (Nat × Nat)) (ns : List Nat) : Bool := ascB ns && (decide (ns.length % 2 = 0) && (decide (xs1 (ps.map (·.1)) ns = 0) != decide (xs1 (ps.map (·.2)) ns = 0)))
end PG
namespace PG
open DN Gf
open L2 (Key)
open PySem (PyData Str)
def ClR (ps : List (Nat × Nat)) (r : R) : Prop := r = .fz .non ∨ ∃ ns : List Nat, r = .own (.lst (ns.map iN)) ∧ (∀ i ∈ ns, i < ps.length) ∧ ns.length ≤ ps.length ∧ clB ps ns = true
end PG
namespace PG
open DN Gf
open PySem (PyData Str)
theorem p_need_few {b n : Nat} (h : b ≤ n) : d_need_few [iN b, iN n] = .ok [] (.fz .non) := by
  have : ¬ n < b := by omega
  simp [d_need_few, b_need_few, this]
end PG
namespace Gf
theorem SpanP.cons_inv {m : Nat × Nat} {L : List (Nat × Nat)} {x y : Nat} (h : SpanP (m :: L) x y) : SpanP L x y ∨ SpanP L (x ^^^ m.1) (y ^^^ m.2) := by
  have key : ∀ x' y', SpanP (m :: L) x' y' → SpanP L x' y' ∨ SpanP L (x' ^^^ m.1) (y' ^^^ m.2) := by
    intro x' y' h
    cases h with
    | out h => exact .inl h
    | inn h => exact .inr (h.cast (by rw [xor_c]) (by rw [xor_c]))
  exact key x y h
theorem SpanP.snoc {L : List (Nat × Nat)} {m : Nat × Nat} {x y : Nat} : SpanP (L ++ [m]) x y ↔ SpanP L x y ∨ SpanP L (x ^^^ m.1) (y ^^^ m.2) := by
  constructor
  · intro h
    refine SpanP.cons_inv (h.of_mem fun k hk => ?_)
    rcases List.mem_append.mp hk with hk | hk
    · exact List.mem_cons_of_mem _ hk
    · rw [List.mem_singleton.mp hk]; exact List.mem_cons_self
  · intro h
    rcases h with h | h
    · exact h.of_mem fun k hk => List.mem_append_left _ hk
    · have h1 : SpanP (L ++ [m]) (x ^^^ m.1) (y ^^^ m.2) := h.of_mem fun k hk => List.mem_append_left _ hk
      have h2 : SpanP (L ++ [m]) m.1 m.2 := .mem (List.mem_append_right _ List.mem_cons_self)
      exact (h1.xor h2).cast (xor_d _ _) (xor_d _ _)
/-- one map, there and back -/
def Fn (L : List (Nat × Nat)) : Prop := ∀ x y, SpanP L x y → (x = 0 ↔ y = 0)
theorem Fn.nil : Fn [] := fun x y h => by cases h; simp
theorem Fn.sub {L M : List (Nat × Nat)} (h : Fn M) (q : ∀ m ∈ L, m ∈ M) : Fn L := fun x y s => h x y (s.of_mem q)
end Gf
namespace PG
open DN Gf
open L2 (Key)
open PySem (PyData Str)
/-- a told clash -/
def ClG (ps : List (Nat × Nat)) (ns : List Nat) : Prop := (∀ i ∈ ns, i < ps.length) ∧ ns.length ≤ ps.length ∧ clB ps ns = true
theorem ClR.out {ps : List (Nat × Nat)} {ns : List Nat} (h : ClR ps (.own (.lst (ns.map iN)))) : ClG ps ns := by
  rcases h with h | ⟨ms, h, q⟩
  · cases h
  · have : ns = ms := by
      injection h with h
      injection h with h
      have hi : ∀ x y : Nat, iN x = iN y → x = y := fun x y e => by
        have : D.int (x : Int) = D.int (y : Int) := e
        injection this with this
        omega
      exact List.map_inj_right hi |>.mp h
    rw [this]; exact q
end PG
namespace PG
open DN Gf
open PySem (PyData Str)
theorem par_span {A : List Nat} {d : Nat} (h : ∀ a ∈ A, par (a &&& d) = false) {q : Nat} (hq : Span A q) : par (q &&& d) = false := by
  induction hq with
  | nil => rw [Nat.zero_and]; rfl
  | out _ ih => exact ih fun a ha => h a (List.mem_cons_of_mem _ ha)
  | inn _ ih =>
    rw [par_xor_and, h _ List.mem_cons_self, ih fun a ha => h a (List.mem_cons_of_mem _ ha)]
    rfl
theorem zero_of_par {n d : Nat} (hd : d < 2 ^ n) (h : ∀ q, q < 2 ^ n → par (q &&& d) = false) : d = 0 := by
  refine Nat.eq_of_testBit_eq fun i => ?_
  rw [Nat.zero_testBit]
  by_cases hi : i < n
  · have := h (2 ^ i) (Nat.pow_lt_pow_right (by decide) hi)
    rw [Nat.and_comm, par_and_pow] at this
    exact this
  · exact Nat.testBit_lt_two_pow (Nat.lt_of_lt_of_le hd (Nat.pow_le_pow_right (by decide) (by omega)))
/-- what the leads ask -/
def LE (L : Leads) (o x : Nat) : Prop := ∀ p ∈ L, par (p.2.1 &&& x) = par (p.2.2 &&& o)
theorem sol_iff {b : Nat} {L : Leads} {E ms : List Nat} {o x : Nat} (h : Elim b L E ms) (ho : o < 2 ^ ms.length) : vec ms x = o ↔ LE L o x ∧ ∀ e ∈ E, par (e &&& o) = false := by
  constructor
  · rintro rfl
    refine ⟨fun p hp => ?_, fun e he => ?_⟩
    · rw [← (h.pk p hp).2, par_sel]
    · rw [← par_sel, (h.ek e he).2.2, Nat.zero_and]; rfl
  · rintro ⟨h1, h2⟩
    have : vec ms x ^^^ o = 0 := zero_of_par (Nat.xor_lt_two_pow (vec_lt ms x) ho) fun q hq => par_span (fun a ha => by
      rw [par_and_xor, ← par_sel]
      rcases List.mem_append.mp ha with ha | ha
      · obtain ⟨p, hp, rfl⟩ := List.mem_map.mp ha
        rw [(h.pk p hp).2, h1 p hp]
        simp
      · rw [(h.ek a ha).2.2, Nat.zero_and, h2 a ha]
        rfl) (h.all q hq)
    exact Gf.xor_eq_zero.mp this
def isFr (L : Leads) (i : Nat) : Bool := (find L i).isNone
def frs (b : Nat) (L : Leads) : List Nat := (List.range b).filter (isFr L)
theorem mem_frs {b : Nat} {L : Leads} {i : Nat} : i ∈ frs b L ↔ i < b ∧ find L i = none := by
  unfold frs isFr
  simp
theorem frs_lt (b : Nat) (L : Leads) : (frs b L).Pairwise (· < ·) := List.pairwise_lt_range.filter _
/-- the index of a place -/
def sIdx (fr : List Nat) (x : Nat) : Nat := vec (fr.map fun i => 2 ^ i) x
theorem sIdx_lt (fr : List Nat) (x : Nat) : sIdx fr x < 2 ^ fr.length := by
  have := vec_lt (fr.map fun i => 2 ^ i) x
  rwa [List.length_map] at this
theorem sIdx_bit {fr : List Nat} {x j : Nat} (h : j < fr.length) : (sIdx fr x).testBit j = x.testBit fr[j] := by
  unfold sIdx
  rw [vec_bit' x (by simpa using h), List.getElem_map, Nat.and_comm, par_and_pow]
/-- two unlike places that the leads let part first at a free bit -/
theorem part_free {b : Nat} {L : Leads} {o x y : Nat} (low : Low L) (hx : x < 2 ^ b) (hy : y < 2 ^ b) (h1 : LE L o x) (h2 : LE L o y) (ne : x ≠ y) :
    ∃ t ∈ frs b L, x.testBit t ≠ y.testBit t ∧ ∀ i, t < i → x.testBit i = y.testBit i := by
  have h0 : x ^^^ y ≠ 0 := fun z => ne (Gf.xor_eq_zero.mp z)
  refine ⟨(x ^^^ y).log2, ?_, ?_, fun i hi => ?_⟩
  · have hlt : (x ^^^ y).log2 < b := by
      have := (Nat.log2_lt h0).mpr (Nat.xor_lt_two_pow hx hy)
      exact this
    refine mem_frs.mpr ⟨hlt, ?_⟩
    cases hf : find L (x ^^^ y).log2 with
    | none => rfl
    | some q =>
      have hm := find_mem hf
      obtain ⟨l1, l2⟩ := low _ hm
      simp only at l1 l2
      have e : par (q.1 &&& (x ^^^ y)) = false := by
        rw [par_and_xor, h1 _ hm, h2 _ hm]
        simp
      have e2 : q.1 &&& (x ^^^ y) = 2 ^ (x ^^^ y).log2 := by
        refine Nat.eq_of_testBit_eq fun j => ?_
        rw [Nat.testBit_and, Nat.testBit_two_pow]
        by_cases hj : (x ^^^ y).log2 = j
        · subst hj
          rw [l1, top_bit h0]
          simp
        · by_cases hj2 : j < (x ^^^ y).log2
          · rw [l2 j hj2]
            simp [hj]
          · rw [above_top (show (x ^^^ y).log2 < j by omega)]
            simp [hj]
      rw [e2, par_pow] at e
      cases e
  · have := top_bit h0
    rw [Nat.testBit_xor] at this
    intro e
    rw [e] at this
    simp at this
  · have := above_top hi
    rw [Nat.testBit_xor] at this
    revert this
    cases x.testBit i <;> cases y.testBit i <;> simp
theorem sIdx_inj {b : Nat} {L : Leads} {o x y : Nat} (low : Low L) (hx : x < 2 ^ b) (hy : y < 2 ^ b) (h1 : LE L o x) (h2 : LE L o y) (e : sIdx (frs b L) x = sIdx (frs b L) y) : x = y := Classical.byContradiction fun ne => by
  obtain ⟨t, ht, h3, _⟩ := part_free low hx hy h1 h2 ne
  obtain ⟨j, hj, rfl⟩ := List.getElem_of_mem ht
  apply h3
  rw [← sIdx_bit hj, ← sIdx_bit hj, e]
theorem sIdx_mono {b : Nat} {L : Leads} {o x y : Nat} (low : Low L) (hx : x < 2 ^ b) (hy : y < 2 ^ b) (h1 : LE L o x) (h2 : LE L o y) (lt : x < y) : sIdx (frs b L) x < sIdx (frs b L) y := by
  obtain ⟨t, ht, h3, h4⟩ := part_free low hx hy h1 h2 (Nat.ne_of_lt lt)
  obtain ⟨j, hj, rfl⟩ := List.getElem_of_mem ht
  have hb : x.testBit (frs b L)[j] = false ∧ y.testBit (frs b L)[j] = true := by
    cases e1 : x.testBit (frs b L)[j] with
    | false =>
      refine ⟨rfl, ?_⟩
      rw [e1] at h3
      simpa using h3
    | true =>
      exfalso
      rw [e1] at h3
      have e2 : y.testBit (frs b L)[j] = false := by simpa using h3
      have := lt_of_bits e2 e1 fun i hi => (h4 i hi).symm
      omega
  refine lt_of_bits (i := j) (by rw [sIdx_bit hj]; exact hb.1) (by rw [sIdx_bit hj]; exact hb.2) fun i hi => ?_
  by_cases hi2 : i < (frs b L).length
  · rw [sIdx_bit hi2, sIdx_bit hi2]
    exact h4 _ (List.pairwise_iff_getElem.mp (frs_lt b L) j i hj hi2 hi)
  · rw [Nat.testBit_lt_two_pow (Nat.lt_of_lt_of_le (sIdx_lt _ x) (Nat.pow_le_pow_right (by decide) (by omega))), Nat.testBit_lt_two_pow (Nat.lt_of_lt_of_le (sIdx_lt _ y) (Nat.pow_le_pow_right (by decide) (by omega)))]
theorem sIdx_lt_iff {b : Nat} {L : Leads} {o x y : Nat} (low : Low L) (hx : x < 2 ^ b) (hy : y < 2 ^ b) (h1 : LE L o x) (h2 : LE L o y) : x < y ↔ sIdx (frs b L) x < sIdx (frs b L) y := by
  refine ⟨sIdx_mono low hx hy h1 h2, fun h => ?_⟩
  rcases Nat.lt_trichotomy x y with h3 | h3 | h3
  · exact h3
  · subst h3; exact absurd h (Nat.lt_irrefl _)
  · have := sIdx_mono low hy hx h2 h1 h3
    omega
def wiStep (L : Leads) (o i : Nat) (s : Nat × Nat) (t : Nat) : Nat × Nat := match find L t with
  | some q => (s.1 ||| (par (q.1 &&& s.1) ^^ par (q.2 &&& o)).toNat * 2 ^ t, s.2)
  | none => (s.1 ||| (i.testBit (s.2 - 1)).toNat * 2 ^ t, s.2 - 1)
def wiGo (b : Nat) (L : Leads) (o i : Nat) (ts : List Nat) (s : Nat × Nat) : Nat × Nat := ts.foldl (wiStep L o i) s
def wi (b : Nat) (L : Leads) (o i : Nat) : Nat := (wiGo b L o i (List.range b).reverse (0, (frs b L).length)).1
/-- how many free bits lie below -/
def frN (L : Leads) (k : Nat) : Nat := (frs k L).length
theorem frN_succ (L : Leads) (k : Nat) : frN L (k + 1) = frN L k + (isFr L k).toNat := by
  unfold frN frs
  rw [List.range_succ, List.filter_append, List.length_append]
  cases h : isFr L k <;> simp [h]
/-- what holds while the bits from k on are told -/
structure Wi (b : Nat) (L : Leads) (o i k : Nat) (s : Nat × Nat) : Prop where
  lt : s.1 < 2 ^ b
  low : ∀ j, j < k → s.1.testBit j = false
  led : ∀ p ∈ L, k ≤ p.1 → par (p.2.1 &&& s.1) = par (p.2.2 &&& o)
  fre : ∀ t, k ≤ t → t < b → find L t = none → s.1.testBit t = i.testBit (frN L t)
  cnt : s.2 = frN L k
theorem or_bit {x t : Nat} {c : Bool} (h : x.testBit t = false) : x ||| c.toNat * 2 ^ t = x ^^^ c.toNat * 2 ^ t := by
  refine Nat.eq_of_testBit_eq fun j => ?_
  rw [Nat.testBit_or, Nat.testBit_xor, bit_one]
  by_cases hj : j = t
  · subst hj; rw [h]; cases c <;> simp
  · simp [hj]
theorem and_bit {m t : Nat} {c : Bool} (h : m.testBit t = true) : par (m &&& c.toNat * 2 ^ t) = c := by
  have : m &&& c.toNat * 2 ^ t = c.toNat * 2 ^ t := by
    refine Nat.eq_of_testBit_eq fun j => ?_
    rw [Nat.testBit_and, bit_one]
    by_cases hj : j = t
    · subst hj; rw [h]; simp
    · simp [hj]
  rw [this, par_shl]
  cases c <;> rfl
theorem and_bit0 {m t : Nat} {c : Bool} (h : m.testBit t = false) : par (m &&& c.toNat * 2 ^ t) = false := by
  have : m &&& c.toNat * 2 ^ t = 0 := by
    refine Nat.eq_of_testBit_eq fun j => ?_
    rw [Nat.testBit_and, bit_one, Nat.zero_testBit]
    by_cases hj : j = t
    · subst hj; rw [h]; simp
    · simp [hj]
  rw [this]
  rfl
theorem find_nd : ∀ {L : Leads}, (L.map (·.1)).Nodup → ∀ {p : Nat × Nat × Nat}, p ∈ L → find L p.1 = some p.2
  | q :: L, nd, p, hp => by
    rw [List.map_cons] at nd
    obtain ⟨n1, n2⟩ := List.nodup_cons.mp nd
    unfold find
    rw [List.find?_cons]
    rcases List.mem_cons.mp hp with rfl | hp
    · simp
    · have ne : ¬ q.1 = p.1 := fun e => n1 (e ▸ List.mem_map.mpr ⟨p, hp, rfl⟩)
      simp only [ne, decide_false]
      exact find_nd n2 hp
theorem Wi.step {b : Nat} {L : Leads} {o i k : Nat} {s : Nat × Nat} (low : Low L) (nd : (L.map (·.1)).Nodup) (hk : k < b) (h : Wi b L o i (k + 1) s) : Wi b L o i k (wiStep L o i s k) := by
  have h0 : s.1.testBit k = false := h.low k (Nat.lt_succ_self k)
  -- any bit may be put there; what it must be
  have put : ∀ (c : Bool) (n : Nat), (∀ p ∈ L, p.1 = k → (par (p.2.1 &&& s.1) ^^ c) = par (p.2.2 &&& o)) → (find L k = none → c = i.testBit (frN L k)) → n = frN L k → Wi b L o i k (s.1 ||| c.toNat * 2 ^ k, n) := fun c n h1 h2 h3 => by
    refine ⟨?_, fun j hj => ?_, fun p hp hpk => ?_, fun t ht htb hf => ?_, h3⟩
    · show s.1 ||| c.toNat * 2 ^ k < 2 ^ b
      rw [or_bit h0]
      exact Nat.xor_lt_two_pow h.lt (bit_lt hk c)
    · show (s.1 ||| c.toNat * 2 ^ k).testBit j = false
      rw [Nat.testBit_or, bit_one, h.low j (by omega)]
      simp
      omega
    · show par (p.2.1 &&& (s.1 ||| c.toNat * 2 ^ k)) = _
      rw [or_bit h0, par_and_xor]
      obtain ⟨l1, l2⟩ := low p hp
      by_cases e : p.1 = k
      · rw [← e, and_bit l1]
        exact h1 p hp e
      · rw [and_bit0 (l2 k (by omega)), Bool.xor_false]
        exact h.led p hp (by omega)
    · show (s.1 ||| c.toNat * 2 ^ k).testBit t = _
      rw [Nat.testBit_or, bit_one]
      by_cases e : t = k
      · subst e
        rw [h0, h2 hf]
        simp
      · rw [h.fre t (by omega) htb hf]
        simp [e]
  unfold wiStep
  cases hf : find L k with
  | some q =>
    refine put _ _ (fun p hp e => ?_) (fun z => by rw [hf] at z; cases z) ?_
    · have hq : p.2 = q := by
        have := find_nd nd hp
        rw [e, hf] at this
        exact (Option.some.inj this).symm
      rw [hq, ← Bool.xor_assoc, Bool.xor_self, Bool.false_xor]
    · have := h.cnt
      rw [frN_succ, isFr, hf] at this
      simpa using this
  | none =>
    have hc := h.cnt
    rw [frN_succ, isFr, hf] at hc
    have hc' : s.2 = frN L k + 1 := by simpa using hc
    refine put _ _ (fun p hp e => ?_) (fun _ => ?_) ?_
    · exfalso
      obtain ⟨q, hq⟩ := find_some (L := L) (b := k) (List.mem_map.mpr ⟨p, hp, e⟩)
      rw [hf] at hq
      cases hq
    · rw [hc']
      simp
    · show s.2 - 1 = frN L k
      omega
theorem wi_go {b : Nat} {L : Leads} {o i : Nat} (low : Low L) (nd : (L.map (·.1)).Nodup) : ∀ (k : Nat) (s : Nat × Nat), k ≤ b → Wi b L o i k s → Wi b L o i 0 (wiGo b L o i (List.range k).reverse s)
  | 0, s, _, h => h
  | k + 1, s, hk, h => by
    unfold wiGo
    rw [List.range_succ, List.reverse_append, List.reverse_cons, List.reverse_nil, List.nil_append, List.singleton_append, List.foldl_cons]
    exact wi_go low nd k _ (by omega) (h.step low nd (by omega))
theorem wi_ok {b : Nat} {L : Leads} {o i : Nat} (low : Low L) (nd : (L.map (·.1)).Nodup) (lt : ∀ p ∈ L, p.1 < b) : Wi b L o i 0 (wiGo b L o i (List.range b).reverse (0, (frs b L).length)) :=
  wi_go low nd b _ (Nat.le_refl _) ⟨Nat.two_pow_pos b, fun j _ => Nat.zero_testBit j, fun p hp h => absurd (lt p hp) (by omega), fun t h1 h2 => by omega, rfl⟩
theorem wi_lt {b : Nat} {L : Leads} {o i : Nat} (low : Low L) (nd : (L.map (·.1)).Nodup) (lt : ∀ p ∈ L, p.1 < b) : wi b L o i < 2 ^ b := (wi_ok low nd lt).lt
theorem wi_le {b : Nat} {L : Leads} {o i : Nat} (low : Low L) (nd : (L.map (·.1)).Nodup) (lt : ∀ p ∈ L, p.1 < b) : LE L o (wi b L o i) := fun p hp => (wi_ok low nd lt).led p hp (Nat.zero_le _)
theorem frs_at {b : Nat} {L : Leads} {j : Nat} (h : j < (frs b L).length) : frN L (frs b L)[j] = j := by
  have hm := mem_frs.mp (List.getElem_mem h)
  have hp := frs_lt b L
  generalize ht : (frs b L)[j] = t at *
  -- the free bits below t are the first j ones
  have e : frs t L = (frs b L).take j := by
    have e1 : frs t L = (frs b L).filter fun i => decide (i < t) := by
      unfold frs
      rw [List.filter_filter]
      have : List.range t = (List.range b).filter fun i => decide (i < t) := by
        have hb : b = t + (b - t) := by omega
        rw [hb, List.range_add, List.filter_append, List.filter_eq_self.mpr (by simp), List.filter_eq_nil_iff.mpr (by simp), List.append_nil]
      rw [this, List.filter_filter]
      congr 1
      funext i
      rw [Bool.and_comm]
    rw [e1]
    have hsplit : frs b L = (frs b L).take j ++ (frs b L).drop j := (List.take_append_drop _ _).symm
    conv => lhs; rw [hsplit]
    rw [List.filter_append, List.filter_eq_self.mpr, List.filter_eq_nil_iff.mpr, List.append_nil]
    · intro x hx
      obtain ⟨i, hi, rfl⟩ := List.getElem_of_mem hx
      rw [List.getElem_drop]
      simp only [decide_eq_true_eq, Nat.not_lt]
      have hlen : j + i < (frs b L).length := by rw [List.length_drop] at hi; omega
      by_cases h0 : i = 0
      · subst h0; simp [ht]
      · have := List.pairwise_iff_getElem.mp hp j (j + i) h hlen (by omega)
        rw [ht] at this
        omega
    · intro x hx
      obtain ⟨i, hi, rfl⟩ := List.getElem_of_mem hx
      rw [List.length_take] at hi
      rw [List.getElem_take]
      have := List.pairwise_iff_getElem.mp hp i j (by omega) h (by omega)
      rw [ht] at this
      simpa using this
  unfold frN
  rw [e, List.length_take]
  omega
theorem wi_idx {b : Nat} {L : Leads} {o i : Nat} (low : Low L) (nd : (L.map (·.1)).Nodup) (lt : ∀ p ∈ L, p.1 < b) (hi : i < 2 ^ (frs b L).length) : sIdx (frs b L) (wi b L o i) = i := by
  refine Nat.eq_of_testBit_eq fun j => ?_
  by_cases hj : j < (frs b L).length
  · rw [sIdx_bit hj]
    have hm := mem_frs.mp (List.getElem_mem hj)
    have := (wi_ok (o := o) (i := i) low nd lt).fre _ (Nat.zero_le _) hm.1 hm.2
    rw [frs_at hj] at this
    exact this
  · rw [Nat.testBit_lt_two_pow (Nat.lt_of_lt_of_le (sIdx_lt _ _) (Nat.pow_le_pow_right (by decide) (by omega))), Nat.testBit_lt_two_pow (Nat.lt_of_lt_of_le hi (Nat.pow_le_pow_right (by decide) (by omega)))]
theorem wi_of {b : Nat} {L : Leads} {o x : Nat} (low : Low L) (nd : (L.map (·.1)).Nodup) (lt : ∀ p ∈ L, p.1 < b) (hx : x < 2 ^ b) (h : LE L o x) : wi b L o (sIdx (frs b L) x) = x :=
  sIdx_inj low (wi_lt low nd lt) hx (wi_le low nd lt) h (wi_idx low nd lt (sIdx_lt _ _))
theorem asc_ext {xs ys : List Nat} (h1 : xs.Pairwise (· < ·)) (h2 : ys.Pairwise (· < ·)) (h : ∀ x, x ∈ xs ↔ x ∈ ys) : xs = ys := by
  induction xs generalizing ys with
  | nil =>
    cases ys with
    | nil => rfl
    | cons y ys => exact absurd ((h y).mpr List.mem_cons_self) (by simp)
  | cons x xs ih =>
    cases ys with
    | nil => exact absurd ((h x).mp List.mem_cons_self) (by simp)
    | cons y ys =>
      obtain ⟨p1, p2⟩ := List.pairwise_cons.mp h1
      obtain ⟨q1, q2⟩ := List.pairwise_cons.mp h2
      have e : x = y := by
        rcases List.mem_cons.mp ((h x).mp List.mem_cons_self) with e | e
        · exact e
        · rcases List.mem_cons.mp ((h y).mpr List.mem_cons_self) with e' | e'
          · exact e'.symm
          · have := p1 y e'
            have := q1 x e
            omega
      subst e
      congr 1
      refine ih p2 q2 fun z => ⟨fun hz => ?_, fun hz => ?_⟩
      · rcases List.mem_cons.mp ((h z).mp (List.mem_cons_of_mem _ hz)) with e | e
        · subst e; exact absurd (p1 z hz) (Nat.lt_irrefl _)
        · exact e
      · rcases List.mem_cons.mp ((h z).mpr (List.mem_cons_of_mem _ hz)) with e | e
        · subst e; exact absurd (q1 z hz) (Nat.lt_irrefl _)
        · exact e
/-- the solutions -/
def sols (b : Nat) (ms : List Nat) (o : Nat) : List Nat := (List.range (2 ^ b)).filter fun x => decide (vec ms x = o)
theorem mem_sols {b : Nat} {ms : List Nat} {o x : Nat} : x ∈ sols b ms o ↔ x < 2 ^ b ∧ vec ms x = o := by
  unfold sols
  simp
theorem sols_wrong {b : Nat} {L : Leads} {E ms : List Nat} {o : Nat} (h : Elim b L E ms) (ho : o < 2 ^ ms.length) (hw : E.filter (fun e => par (e &&& o)) ≠ []) : sols b ms o = [] := by
  refine List.filter_eq_nil_iff.mpr fun x _ => ?_
  simp only [decide_eq_true_eq]
  intro e
  apply hw
  exact List.filter_eq_nil_iff.mpr fun a ha => by rw [((sol_iff h ho).mp e).2 a ha]; simp
theorem sols_eq {b : Nat} {L : Leads} {E ms : List Nat} {o : Nat} (h : Elim b L E ms) (ho : o < 2 ^ ms.length) (hw : E.filter (fun e => par (e &&& o)) = []) : sols b ms o = (List.range (2 ^ (frs b L).length)).map (wi b L o) := by
  have hE : ∀ e ∈ E, par (e &&& o) = false := fun e he => by
    have := List.filter_eq_nil_iff.mp hw e he
    simpa using this
  refine asc_ext (List.pairwise_lt_range.filter _) ?_ fun x => ?_
  · refine List.pairwise_map.mpr (List.pairwise_lt_range.imp_of_mem fun {i j} hi hj hlt => ?_)
    have hi := List.mem_range.mp hi
    have hj := List.mem_range.mp hj
    rw [sIdx_lt_iff h.low (wi_lt h.low h.nd h.lt) (wi_lt h.low h.nd h.lt) (wi_le h.low h.nd h.lt) (wi_le h.low h.nd h.lt), wi_idx h.low h.nd h.lt hi, wi_idx h.low h.nd h.lt hj]
    exact hlt
  · constructor
    · intro hx
      obtain ⟨h1, h2⟩ := mem_sols.mp hx
      exact List.mem_map.mpr ⟨_, List.mem_range.mpr (sIdx_lt _ _), wi_of h.low h.nd h.lt h1 ((sol_iff h ho).mp h2).1⟩
    · intro hx
      obtain ⟨i, _, rfl⟩ := List.mem_map.mp hx
      exact mem_sols.mpr ⟨wi_lt h.low h.nd h.lt, (sol_iff h ho).mpr ⟨wi_le h.low h.nd h.lt, hE⟩⟩
end PG
namespace PG
open DN Gf
open L2 (Key)
open PySem (PyData Str)
def sysD (b o : Nat) (L : Leads) (wr fr : List Nat) : D := .ins "System" [("bits_kept", iN b), ("ones", iN o), ("leads", ldD L), ("wrong", .lst (wr.map iN)), ("free", .lst (fr.map iN))]
section
variable {b o : Nat} {L : Leads} {wr fr : List Nat} {x1 x2 x3 x4 x5 d : D}
def sy0 : D := .ins "System" []
def sy1 (a : D) : D := .ins "System" [("bits_kept", a)]
def sy2 (a c : D) : D := .ins "System" [("bits_kept", a), ("ones", c)]
def sy3 (a c e : D) : D := .ins "System" [("bits_kept", a), ("ones", c), ("leads", e)]
def sy4 (a c e f : D) : D := .ins "System" [("bits_kept", a), ("ones", c), ("leads", e), ("wrong", f)]
def sy5 (a c e f g : D) : D := .ins "System" [("bits_kept", a), ("ones", c), ("leads", e), ("wrong", f), ("free", g)]
@[simp] theorem sy_put1 : putAt ["System"] "bits_kept" d (some sy0) = some (sy1 d) := by rfl
@[simp] theorem sy_put2 : putAt ["System"] "ones" d (some (sy1 x1)) = some (sy2 x1 d) := by rfl
@[simp] theorem sy_put3 : putAt ["System"] "leads" d (some (sy2 x1 x2)) = some (sy3 x1 x2 d) := by rfl
@[simp] theorem sy_put4 : putAt ["System"] "wrong" d (some (sy3 x1 x2 x3)) = some (sy4 x1 x2 x3 d) := by rfl
@[simp] theorem sy_put5 : putAt ["System"] "free" d (some (sy4 x1 x2 x3 x4)) = some (sy5 x1 x2 x3 x4 d) := by rfl
@[simp] theorem sy_ones3 : gFld ["System"] "ones" (sy3 x1 x2 x3) = some (.fz x2) := by rfl
@[simp] theorem sy_leads4 : gFld ["System"] "leads" (sy4 x1 x2 x3 x4) = some (.fz x3) := by rfl
@[simp] theorem sy_bits : gFld ["System"] "bits_kept" (sy5 x1 x2 x3 x4 x5) = some (.fz x1) := by rfl
@[simp] theorem sy_ones : gFld ["System"] "ones" (sy5 x1 x2 x3 x4 x5) = some (.fz x2) := by rfl
@[simp] theorem sy_leads : gFld ["System"] "leads" (sy5 x1 x2 x3 x4 x5) = some (.fz x3) := by rfl
@[simp] theorem sy_wrong : gFld ["System"] "wrong" (sy5 x1 x2 x3 x4 x5) = some (.fz x4) := by rfl
@[simp] theorem sy_free : gFld ["System"] "free" (sy5 x1 x2 x3 x4 x5) = some (.fz x5) := by rfl
@[simp] theorem sy_many (ms : List Md) (m : List D → FO) (fs : Env → O (List R)) (ρ : Env) (r : R) : isMe "many" ms [("System", m)] fs ρ r (some (sy5 x1 x2 x3 x4 x5)) = runMe ms fs ρ r (some m) := nr (by rfl)
@[simp] theorem sy_with (ms : List Md) (m : List D → FO) (fs : Env → O (List R)) (ρ : Env) (r : R) : isMe "with_index" ms [("System", m)] fs ρ r (some (sy5 x1 x2 x3 x4 x5)) = runMe ms fs ρ r (some m) := nr (by rfl)
@[simp] theorem sy_index (ms : List Md) (m : List D → FO) (fs : Env → O (List R)) (ρ : Env) (r : R) : isMe "index_of" ms [("System", m)] fs ρ r (some (sy5 x1 x2 x3 x4 x5)) = runMe ms fs ρ r (some m) := nr (by rfl)
end
def onesAt (os : List Nat) : List Nat := (os.zipIdx.filter fun q => decide (q.1 = 1)).map (·.2)
def onesOf (os : List Nat) : Nat := mk (onesAt os)
theorem onesAt_nd (os : List Nat) : (onesAt os).Nodup := by
  unfold onesAt
  refine List.Nodup.sublist (List.Sublist.map _ List.filter_sublist) ?_
  have : os.zipIdx.map (·.2) = List.range' 0 os.length := List.zipIdx_map_snd 0 os
  rw [this]
  exact List.nodup_range'
theorem mem_onesAt {os : List Nat} {i : Nat} : i ∈ onesAt os ↔ os[i]? = some 1 := by
  unfold onesAt
  rw [List.mem_map]
  constructor
  · rintro ⟨q, hq, rfl⟩
    obtain ⟨h1, h2⟩ := List.mem_filter.mp hq
    have := List.mem_zipIdx_iff_getElem?.mp h1
    rw [of_decide_eq_true h2] at this
    exact this
  · intro h
    exact ⟨(1, i), List.mem_filter.mpr ⟨List.mem_zipIdx_iff_getElem?.mpr h, rfl⟩, rfl⟩
theorem onesAt_lt {os : List Nat} : ∀ i ∈ onesAt os, i < os.length := fun i hi => (List.getElem?_eq_some_iff.mp (mem_onesAt.mp hi)).1
theorem onesOf_lt (os : List Nat) : onesOf os < 2 ^ os.length := mk_lt (onesAt_nd os) onesAt_lt
def wrongs (E : List Nat) (o : Nat) : List Nat := E.filter fun e => par (e &&& o)
/-- how many there are -/
def solN (b : Nat) (L : Leads) (wr : List Nat) : Nat := if wr = [] then 2 ^ (frs b L).length else 0
end PG
namespace DN
end DN
namespace PG
open DN Gf
open L2 (Key)
open PySem (PyData Str)
section
variable {b : Nat} {ms os : List Nat}
/-- what a system with these holds -/
structure Made (b : Nat) (ms os : List Nat) (L : Leads) (E : List Nat) : Prop where
  el : Elim b L E ms
  ini : d_System___init__ [sy0, iN b, .lst (ms.map iN), .lst (os.map iN)] = .ok [sysD b (onesOf os) L (wrongs E (onesOf os)) (frs b L)] (.fz .non)
  run : d_eliminated [.lst (ms.map iN)] = .ok [] (.tp [.own (ldD L), .own (.lst (E.map iN))])
theorem Made.sols {L : Leads} {E : List Nat} (k : Made b ms os L E) (hl : os.length = ms.length) : sols b ms (onesOf os) = if wrongs E (onesOf os) = [] then (List.range (2 ^ (frs b L).length)).map (wi b L (onesOf os)) else [] := by
  have ho : onesOf os < 2 ^ ms.length := by rw [← hl]; exact onesOf_lt os
  by_cases hw : wrongs E (onesOf os) = []
  · rw [if_pos hw]; exact sols_eq k.el ho hw
  · rw [if_neg hw]; exact sols_wrong k.el ho hw
theorem Made.cnt {L : Leads} {E : List Nat} (k : Made b ms os L E) (hl : os.length = ms.length) : solN b L (wrongs E (onesOf os)) = (PG.sols b ms (onesOf os)).length := by
  rw [k.sols hl]
  unfold solN
  split <;> simp
end
end PG
namespace PG
open DN Gf
open L2 (Key)
open PySem (PyData Str)
end PG
namespace PG
open DN Gf
open L2 (Key)
open PySem (PyData Str)
end PG
namespace PG
open DN Gf
open L2 (Key)
open PySem (PyData Str)
theorem SpanP.sub {L M : List (Nat × Nat)} {x y : Nat} (h : ∀ m ∈ L, SpanP M m.1 m.2) (s : SpanP L x y) : SpanP M x y := by
  induction s with
  | nil => exact .zero M
  | out _ ih => exact ih fun m hm => h m (List.mem_cons_of_mem _ hm)
  | inn _ ih => exact (h _ List.mem_cons_self).xor (ih fun m hm => h m (List.mem_cons_of_mem _ hm))
end PG
namespace PG
open DN Gf
open L2 (Key)
open PySem (PyData Str)
section
variable {α : Type} (g : α → D)
def kvK (F : List (Nat × α)) : List (Key × D) := F.map fun p => (.inl (p.1 : Int), g p.2)
def kvD (F : List (Nat × α)) : D := .dct (kvK g F)
def lkA (F : List (Nat × α)) (x : Nat) : Option α := (F.find? fun p => decide (p.1 = x)).map (·.2)
theorem kv_val (F : List (Nat × α)) (x : Nat) : valD (kvK g F) (.inl (x : Int)) = (lkA F x).map g := by
  induction F with
  | nil => rfl
  | cons p F ih =>
    unfold valD lkA kvK at ih ⊢
    rw [List.map_cons, List.find?_cons, List.find?_cons]
    by_cases h : p.1 = x
    · simp [h]
    · have h' : ¬ ((p.1 : Int) = (x : Int)) := by omega
      simp only [Sum.inl.injEq, h, h', decide_false, Bool.false_eq_true]
      exact ih
theorem lkA_some {F : List (Nat × α)} {x : Nat} (h : x ∈ F.map (·.1)) : ∃ a, lkA F x = some a ∧ (x, a) ∈ F := by
  unfold lkA
  cases e : F.find? (fun p => decide (p.1 = x)) with
  | some p =>
    have h1 : p.1 = x := by simpa using List.find?_some e
    subst h1
    exact ⟨p.2, rfl, List.mem_of_find?_eq_some e⟩
  | none =>
    obtain ⟨p, hp, rfl⟩ := List.mem_map.mp h
    have := List.find?_eq_none.mp e p hp
    simp at this
theorem lkA_none {F : List (Nat × α)} {x : Nat} (h : x ∉ F.map (·.1)) : lkA F x = none := by
  unfold lkA
  cases e : F.find? (fun p => decide (p.1 = x)) with
  | none => rfl
  | some p =>
    have h1 : p.1 = x := by simpa using List.find?_some e
    exact absurd (List.mem_map.mpr ⟨p, List.mem_of_find?_eq_some e, h1⟩) h
theorem lkA_isSome (F : List (Nat × α)) (x : Nat) : (lkA F x).isSome = decide (x ∈ F.map (·.1)) := by
  by_cases h : x ∈ F.map (·.1)
  · obtain ⟨a, e, _⟩ := lkA_some h
    rw [e, decide_eq_true h]; rfl
  · rw [lkA_none h, decide_eq_false h]; rfl
theorem kv_ix (F : List (Nat × α)) (x : Nat) : gIx (kvD g F) (iN x) = (lkA F x).map fun a => .fz (g a) := by
  unfold kvD
  rw [gIx_dct, kv_val, Option.map_map]
  rfl
theorem kv_in (F : List (Nat × α)) (x : Nat) : gIn (iN x) (kvD g F) = some (.fz (.bl (decide (x ∈ F.map (·.1))))) := by
  unfold kvD
  rw [gIn_dct, kv_val, Option.isSome_map, lkA_isSome]
theorem kv_notIn (F : List (Nat × α)) (x : Nat) : gNotIn (iN x) (kvD g F) = some (.fz (.bl (!decide (x ∈ F.map (·.1))))) := by
  unfold kvD
  rw [gNotIn_dct, kv_val, Option.isSome_map, lkA_isSome]
theorem kv_putK {F : List (Nat × α)} {x : Nat} {a : α} (h : x ∉ F.map (·.1)) : putD (kvK g F) (.inl (x : Int)) (g a) = kvK g (F ++ [(x, a)]) := by
  unfold putD kvK
  rw [if_neg, List.map_append]
  · rfl
  · intro q
    obtain ⟨z, hz, e⟩ := List.any_eq_true.mp q
    obtain ⟨p', hp, rfl⟩ := List.mem_map.mp hz
    have e := of_decide_eq_true e
    simp only [Sum.inl.injEq] at e
    exact h (List.mem_map.mpr ⟨p', hp, by omega⟩)
theorem kv_put {F : List (Nat × α)} {x : Nat} {a : α} (h : x ∉ F.map (·.1)) (hl : F.length ≤ 100000) : gPut (kvD g F) (iN x) (g a) = some (kvD g (F ++ [(x, a)])) := by
  unfold kvD
  rw [gPut_dct (by unfold kvK; rw [List.length_map]; exact hl), kv_putK g h]
end
theorem disp_0 (s : Sl) (t : List Sl) : dDisp [(dC (iN 0), dC .non)] (s :: t) = .ok (s :: t) (.own (.dct [(.inl 0, .non)])) := nr (by with_unfolding_all rfl)
inductive Rch (rs : List Nat) (o T : Nat) : Nat → Prop
  | zero : Rch rs o T 0
  | more {S i : Nat} : Rch rs o T S → o.testBit i = true → S.testBit i = false → freeB rs (S ||| 2 ^ i) T = true → Rch rs o T (S ||| 2 ^ i)
/-- how the dict of sets is while it is made: the keys of C are closed -/
structure SetsI (b : Nat) (rs : List Nat) (o T : Nat) (F : List (Nat × Option Nat)) (W : List Nat) (C : Nat → Prop) : Prop where
  nd : (F.map (·.1)).Nodup
  zr : (0, none) ∈ F
  lt : ∀ p ∈ F, p.1 < 2 ^ b
  rch : ∀ p ∈ F, Rch rs o T p.1
  par : ∀ p ∈ F, p.1 = 0 ∨ ∃ q i, p.2 = some q ∧ q ∈ F.map (·.1) ∧ o.testBit i = true ∧ q.testBit i = false ∧ p.1 = q ||| 2 ^ i ∧ freeB rs p.1 T = true
  wt : ∀ x ∈ W, x ∈ F.map (·.1)
  cl : ∀ k ∈ F.map (·.1), k ∉ W → C k
def Clo (rs : List Nat) (o T : Nat) (F : List (Nat × Option Nat)) (k : Nat) : Prop := ∀ i, o.testBit i = true → k.testBit i = false → freeB rs (k ||| 2 ^ i) T = true → k ||| 2 ^ i ∈ F.map (·.1)
theorem or_pow_lt {b k i : Nat} (h : k < 2 ^ b) (hi : i < b) : k ||| 2 ^ i < 2 ^ b := Nat.or_lt_two_pow h (Nat.pow_lt_pow_right (by decide) hi)
theorem snoc_or {α : Type} (l : List α) : l = [] ∨ ∃ l' x, l = l' ++ [x] := by
  rcases List.eq_nil_or_concat l with h | ⟨l', x, h⟩
  · exact .inl h
  · exact .inr ⟨l', x, by simpa using h⟩
section
variable {b : Nat} {m : Mp} {T : Nat}
theorem nd_le {F : List (Nat × Option Nat)} (nd : (F.map (·.1)).Nodup) (lt : ∀ p ∈ F, p.1 < 2 ^ b) : F.length ≤ 2 ^ b := by
  have := nodup_le nd (n := 2 ^ b) fun x hx => by
    obtain ⟨p, hp, rfl⟩ := List.mem_map.mp hx
    exact lt p hp
  rwa [List.length_map] at this
theorem or_bit_same {k i : Nat} (h : k.testBit i = true) : k ||| 2 ^ i = k := by
  refine Nat.eq_of_testBit_eq fun j => ?_
  rw [Nat.testBit_or, Nat.testBit_two_pow]
  by_cases e : i = j
  · subst e; simp [h]
  · simp [e]
/-- the bits of one set -/
theorem sets_in {O : List Nat} {S : Nat} {y6 y7 : Sl} (hb : b ≤ 10) (h : Map b m) (hT : T < 2 ^ b) (hO : O = bitsN (onceM b m T)) (hlt : onceM b m T < 2 ^ b) {F : List (Nat × Option Nat)} {W : List Nat} (hS : S ∈ F.map (·.1)) (hI : SetsI b m.1 (onceM b m T) T F W fun k => k = S ∨ Clo m.1 (onceM b m T) T F k) (hW : 2 * F.length + 0 + W.length ≤ 10000 + 3 * F.length) (hWl : W.length ≤ 5000) :
    ∃ (F' : List (Nat × Option Nat)) (W' : List Nat) (z6 z7 : Sl), dLoop (store 6) x_sets_before_1 (fzs (O.map iN)) [.fz (mD m), .ln (iN T), .ln (.lst (O.map iN)), .own (kvD oN F), .own (.lst (W.map iN)), .fz (iN S), y6, y7] = .ok [.fz (mD m), .ln (iN T), .ln (.lst (O.map iN)), .own (kvD oN F'), .own (.lst (W'.map iN)), .fz (iN S), z6, z7] .nx ∧
      SetsI b m.1 (onceM b m T) T F' W' (Clo m.1 (onceM b m T) T F') ∧ F'.length + W.length = F.length + W'.length ∧ F.length ≤ F'.length := by
  obtain ⟨ρ', e, F', W', z6, z7, rfl, hI', hd, hS', h1, h2⟩ := loop_l (g := store 6) (b := x_sets_before_1) iN (fun d ρ => ∃ (F' : List (Nat × Option Nat)) (W' : List Nat) (z6 z7 : Sl), ρ = [.fz (mD m), .ln (iN T), .ln (.lst (O.map iN)), .own (kvD oN F'), .own (.lst (W'.map iN)), .fz (iN S), z6, z7] ∧
      SetsI b m.1 (onceM b m T) T F' W' (fun k => k = S ∨ Clo m.1 (onceM b m T) T F' k) ∧ (∀ i ∈ d, S.testBit i = false → freeB m.1 (S ||| 2 ^ i) T = true → S ||| 2 ^ i ∈ F'.map (·.1)) ∧ S ∈ F'.map (·.1) ∧ F'.length + W.length = F.length + W'.length ∧ F.length ≤ F'.length) (xs := O) (ρ := [.fz (mD m), .ln (iN T), .ln (.lst (O.map iN)), .own (kvD oN F), .own (.lst (W.map iN)), .fz (iN S), y6, y7]) ⟨F, W, _, _, rfl, hI, fun i hi => (nomatch hi), hS, rfl, Nat.le_refl _⟩ (by
    rintro d i t ρ hx ⟨F', W', z6, z7, rfl, hI', hd, hS', h1, h2⟩
    have hio : (onceM b m T).testBit i = true := by
      have : i ∈ O := by rw [hx]; simp
      rw [hO] at this
      exact mem_bitsN.mp this
    have hib : i < b := by
      rcases Nat.lt_or_ge i b with q | q
      · exact q
      · rw [Nat.testBit_lt_two_pow (Nat.lt_of_lt_of_le hlt (Nat.pow_le_pow_right (by decide) q))] at hio; cases hio
    have hSlt : S < 2 ^ b := by
      obtain ⟨p, hp, rfl⟩ := List.mem_map.mp hS'
      exact hI'.lt p hp
    have hml := or_pow_lt hSlt hib
    have hFl := nd_le hI'.nd hI'.lt
    have hp10 : 2 ^ b ≤ 2 ^ 10 := Nat.pow_le_pow_right (by decide) hb
    have hi6 : i ≤ 100000 := by omega
    have e1 := kv_notIn oN F' (S ||| 2 ^ i)
    have e2 := p_is_independent (twice := T) (show b ≤ 60 by omega) h hml
    have hWl' : (W'.map iN).length ≤ 100000 := by rw [List.length_map]; omega
    by_cases c1 : S ||| 2 ^ i ∈ F'.map (·.1)
    · rw [decide_eq_true c1] at e1
      refine Goes.of (ρ := [.fz (mD m), .ln (iN T), .ln (.lst (O.map iN)), .own (kvD oN F'), .own (.lst (W'.map iN)), .fz (iN S), .fz (iN i), .fz (iN (S ||| 2 ^ i))]) ?_ ⟨F', W', _, _, rfl, hI', fun j hj q1 q2 => ?_, hS', h1, h2⟩
      · generalize kvD oN F' = KF at *
        generalize W'.map iN = WW at *
        generalize O.map iN = OO at *
        generalize mD m = MM at *
        simp [x_sets_before_1, hi6, e1]
      · rcases List.mem_append.mp hj with hj | hj
        · exact hd j hj q1 q2
        · rw [List.mem_singleton.mp hj]; exact c1
    · rw [decide_eq_false c1] at e1
      cases c2 : freeB m.1 (S ||| 2 ^ i) T with
      | false =>
        rw [c2] at e2
        refine Goes.of (ρ := [.fz (mD m), .ln (iN T), .ln (.lst (O.map iN)), .own (kvD oN F'), .own (.lst (W'.map iN)), .fz (iN S), .fz (iN i), .fz (iN (S ||| 2 ^ i))]) ?_ ⟨F', W', _, _, rfl, hI', fun j hj q1 q2 => ?_, hS', h1, h2⟩
        · generalize kvD oN F' = KF at *
          generalize W'.map iN = WW at *
          generalize O.map iN = OO at *
          generalize mD m = MM at *
          simp [x_sets_before_1, hi6, e1, e2]
        · rcases List.mem_append.mp hj with hj | hj
          · exact hd j hj q1 q2
          · rw [List.mem_singleton.mp hj] at q2
            rw [c2] at q2; cases q2
      | true =>
        rw [c2] at e2
        have hSi : S.testBit i = false := by
          cases q : S.testBit i with
          | false => rfl
          | true => rw [or_bit_same q] at c1; exact absurd hS' c1
        have eg : gPut (kvD oN F') (iN (S ||| 2 ^ i)) (iN S) = some (kvD oN (F' ++ [(S ||| 2 ^ i, some S)])) := kv_put oN (a := some S) c1 (by omega)
        have hmem : ∀ k, k ∈ (F' ++ [(S ||| 2 ^ i, some S)]).map (·.1) ↔ k ∈ F'.map (·.1) ∨ k = S ||| 2 ^ i := fun k => by
          rw [List.map_append, List.mem_append, List.map_singleton, List.mem_singleton]
        refine Goes.of (ρ := [.fz (mD m), .ln (iN T), .ln (.lst (O.map iN)), .own (kvD oN (F' ++ [(S ||| 2 ^ i, some S)])), .own (.lst ((W' ++ [S ||| 2 ^ i]).map iN)), .fz (iN S), .fz (iN i), .fz (iN (S ||| 2 ^ i))]) ?_ ⟨F' ++ [(S ||| 2 ^ i, some S)], W' ++ [S ||| 2 ^ i], _, _, rfl, ?_, fun j hj q1 q2 => ?_, (hmem S).mpr (.inl hS'), ?_, ?_⟩
        · rw [List.map_append, List.map_singleton]
          generalize kvD oN (F' ++ [(S ||| 2 ^ i, some S)]) = KF2 at *
          generalize kvD oN F' = KF at *
          generalize W'.map iN = WW at *
          generalize O.map iN = OO at *
          generalize mD m = MM at *
          simp [x_sets_before_1, hi6, e1, e2, eg, hWl']
        · have hSr : Rch m.1 (onceM b m T) T S := by
            obtain ⟨p, hp, rfl⟩ := List.mem_map.mp hS'
            exact hI'.rch p hp
          refine ⟨?_, List.mem_append_left _ hI'.zr, fun p hp => ?_, fun p hp => ?_, fun p hp => ?_, fun x hx => ?_, fun k hk hkw => ?_⟩
          · rw [List.map_append, List.map_singleton]
            refine List.nodup_append.mpr ⟨hI'.nd, by simp, fun a ha c hc e => ?_⟩
            have hc' : c = S ||| 2 ^ i := List.mem_singleton.mp hc
            rw [e, hc'] at ha
            exact c1 ha
          · rcases List.mem_append.mp hp with hp | hp
            · exact hI'.lt p hp
            · rw [List.mem_singleton.mp hp]; exact hml
          · rcases List.mem_append.mp hp with hp | hp
            · exact hI'.rch p hp
            · rw [List.mem_singleton.mp hp]; exact .more hSr hio hSi c2
          · rcases List.mem_append.mp hp with hp | hp
            · rcases hI'.par p hp with q | ⟨q, j, a1, a2, a3⟩
              · exact .inl q
              · exact .inr ⟨q, j, a1, (hmem q).mpr (.inl a2), a3⟩
            · rw [List.mem_singleton.mp hp]
              exact .inr ⟨S, i, rfl, (hmem S).mpr (.inl hS'), hio, hSi, rfl, c2⟩
          · rcases List.mem_append.mp hx with hx | hx
            · exact (hmem x).mpr (.inl (hI'.wt x hx))
            · rw [List.mem_singleton.mp hx]; exact (hmem _).mpr (.inr rfl)
          · rcases (hmem k).mp hk with hk | rfl
            · rcases hI'.cl k hk fun q => hkw (List.mem_append_left _ q) with q | q
              · exact .inl q
              · exact .inr fun j a1 a2 a3 => (hmem _).mpr (.inl (q j a1 a2 a3))
            · exact absurd (List.mem_append_right _ (List.mem_singleton_self _)) hkw
        · rcases List.mem_append.mp hj with hj | hj
          · exact (hmem _).mpr (.inl (hd j hj q1 q2))
          · rw [List.mem_singleton.mp hj]; exact (hmem _).mpr (.inr rfl)
        · simp only [List.length_append, List.length_singleton]; omega
        · simp only [List.length_append, List.length_singleton]; omega)
  refine ⟨F', W', z6, z7, e, ⟨hI'.nd, hI'.zr, hI'.lt, hI'.rch, hI'.par, hI'.wt, fun k hk hkw => ?_⟩, h1, h2⟩
  rcases hI'.cl k hk hkw with rfl | q
  · intro i a1 a2 a3
    exact hd i (by rw [hO]; exact mem_bitsN.mpr a1) a2 a3
  · exact q
theorem onceM_lt : onceM b m T < 2 ^ b := by
  unfold onceM
  refine andN_lt ?_
  exact mk_lt (chg_nd b m) chg_lt
/-- what sets_before tells -/
structure SetsB (b : Nat) (rs : List Nat) (o T : Nat) (F : List (Nat × Option Nat)) : Prop where
  nd : (F.map (·.1)).Nodup
  zr : (0, none) ∈ F
  lt : ∀ p ∈ F, p.1 < 2 ^ b
  iff : ∀ k, k ∈ F.map (·.1) ↔ Rch rs o T k
  par : ∀ p ∈ F, p.1 = 0 ∨ ∃ q i, p.2 = some q ∧ q ∈ F.map (·.1) ∧ o.testBit i = true ∧ q.testBit i = false ∧ p.1 = q ||| 2 ^ i ∧ freeB rs p.1 T = true
theorem p_sets_before (hb : b ≤ 10) (h : Map b m) (hT : T < 2 ^ b) : ∃ F, d_sets_before [mD m, iN T] = .ok [] (.own (kvD oN F)) ∧ SetsB b m.1 (onceM b m T) T F := by
  have hp10 : 2 ^ b ≤ 2 ^ 10 := Nat.pow_le_pow_right (by decide) hb
  have hlt := onceM_lt (b := b) (m := m) (T := T)
  have e1 := p_once_of (twice := T) (show b ≤ 60 by omega) h
  have e2 := p_bits_of (n := onceM b m T) (k := b) hlt (by omega)
  generalize hO : bitsN (onceM b m T) = O at *
  obtain ⟨ρ', e3, F, y5, y6, y7, rfl, hI⟩ := while_fuel (c := x_sets_before_2) (b := x_sets_before_3)
    (fun n ρ => ∃ (F : List (Nat × Option Nat)) (W : List Nat) (y5 y6 y7 : Sl), ρ = [.fz (mD m), .ln (iN T), .own (.lst (O.map iN)), .own (kvD oN F), .own (.lst (W.map iN)), y5, y6, y7] ∧ n + 2 * F.length = 2 * 2 ^ b + W.length ∧ W.length ≤ 3000 ∧ W.length + 0 ≤ F.length + 1 ∧ SetsI b m.1 (onceM b m T) T F W (Clo m.1 (onceM b m T) T F))
    (fun ρ => ∃ (F : List (Nat × Option Nat)) (y5 y6 y7 : Sl), ρ = [.fz (mD m), .ln (iN T), .own (.lst (O.map iN)), .own (kvD oN F), .own (.lst []), y5, y6, y7] ∧ SetsI b m.1 (onceM b m T) T F [] (Clo m.1 (onceM b m T) T F))
    (n := 2 * 2 ^ b - 1) (ρ := [.fz (mD m), .ln (iN T), .own (.lst (O.map iN)), .own (kvD oN [(0, none)]), .own (.lst ([0].map iN)), .un, .un, .un]) (by omega) ⟨[(0, none)], [0], _, _, _, rfl, by
      have := Nat.two_pow_pos b
      simp only [List.length_singleton]; omega, by simp, by simp, ⟨by simp, by simp, fun p hp => by
      rw [List.mem_singleton.mp hp]; exact Nat.two_pow_pos b, fun p hp => by
      rw [List.mem_singleton.mp hp]; exact .zero, fun p hp => by
      rw [List.mem_singleton.mp hp]; exact .inl rfl, fun x hx => by
      rw [List.mem_singleton.mp hx]; simp, fun k hk hkw => absurd (by simpa using hk) hkw⟩⟩ (by
    rintro n ρ ⟨F, W, y5, y6, y7, rfl, hn, hWl, hWF, hI⟩
    have hFl := nd_le hI.nd hI.lt
    rcases snoc_or W with rfl | ⟨W0, S, rfl⟩
    · have e : x_sets_before_2 [.fz (mD m), .ln (iN T), .own (.lst (O.map iN)), .own (kvD oN F), .own (.lst (([] : List Nat).map iN)), y5, y6, y7] = .ok [.fz (mD m), .ln (iN T), .own (.lst (O.map iN)), .own (kvD oN F), .own (.lst []), y5, y6, y7] false := by
        generalize kvD oN F = KF at *
        generalize mD m = MM at *
        simp [x_sets_before_2]
      rw [e]
      exact ⟨F, _, _, _, rfl, hI⟩
    · have e : x_sets_before_2 [.fz (mD m), .ln (iN T), .own (.lst (O.map iN)), .own (kvD oN F), .own (.lst ((W0 ++ [S]).map iN)), y5, y6, y7] = .ok [.fz (mD m), .ln (iN T), .own (.lst (O.map iN)), .own (kvD oN F), .own (.lst ((W0 ++ [S]).map iN)), y5, y6, y7] true := by
        have := gNe2_N0 (W0 ++ [S])
        rw [decide_eq_false (by simp)] at this
        generalize kvD oN F = KF at *
        generalize mD m = MM at *
        generalize (W0 ++ [S]).map iN = WW at *
        simp [x_sets_before_2, this]
      rw [e]
      show Goes _ (x_sets_before_3 _)
      have hS := hI.wt S (List.mem_append_right _ (List.mem_singleton_self _))
      rw [List.length_append, List.length_singleton] at hn hWl hWF
      obtain ⟨F', W', z6, z7, e4, hI', h1, h2⟩ := sets_in (O := O) (S := S) (y6 := y6) (y7 := y7) (F := F) (W := W0) hb h hT hO.symm hlt hS ⟨hI.nd, hI.zr, hI.lt, hI.rch, hI.par, fun x hx => hI.wt x (List.mem_append_left _ hx), fun k hk hkw => by
        by_cases c : k = S
        · exact .inl c
        · exact .inr (hI.cl k hk fun q => by
            rcases List.mem_append.mp q with q | q
            · exact hkw q
            · exact c (List.mem_singleton.mp q))⟩ (by omega) (by omega)
      have hFl' := nd_le hI'.nd hI'.lt
      refine Goes.of (ρ := [.fz (mD m), .ln (iN T), .own (.lst (O.map iN)), .own (kvD oN F'), .own (.lst (W'.map iN)), .fz (iN S), z6, z7]) ?_ ⟨2 * 2 ^ b + W'.length - 2 * F'.length, by omega, F', W', _, _, _, rfl, by omega, by omega, by omega, hI'⟩
      have hg : gPop0 (.lst ((W0 ++ [S]).map iN)) [] = some (.lst (W0.map iN), iN S) := by
        rw [gPop0_N, List.map_append, List.map_singleton, List.getLast?_concat, List.dropLast_concat]
        rfl
      clear hI hI' hS
      generalize kvD oN F' = KF' at *
      generalize kvD oN F = KF at *
      generalize W'.map iN = WW' at *
      generalize (W0 ++ [S]).map iN = WS at *
      generalize W0.map iN = WW at *
      generalize O.map iN = OO at *
      generalize mD m = MM at *
      simp [x_sets_before_3, hg, e4])
  refine ⟨F, ?_, ⟨hI.nd, hI.zr, hI.lt, fun k => ⟨fun hk => ?_, fun hk => ?_⟩, hI.par⟩⟩
  · have e3 : dWhile x_sets_before_2 x_sets_before_3 fuel [.fz (mD m), .ln (iN T), .own (.lst (O.map iN)), .own (.dct [(.inl 0, .non)]), .own (.lst [iN 0]), .un, .un, .un] = _ := e3
    clear hI
    generalize kvD oN F = KF at *
    generalize O.map iN = OO at *
    simp only [mD] at *
    generalize m.1.map iN = MM at *
    simp [d_sets_before, b_sets_before, disp_0, e1, e2, e3]
  · obtain ⟨p, hp, rfl⟩ := List.mem_map.mp hk
    exact hI.rch p hp
  · induction hk with
    | zero => exact List.mem_map.mpr ⟨_, hI.zr, rfl⟩
    | more _ a1 a2 a3 ih => exact hI.cl _ ih (by simp) _ a1 a2 a3
end
end PG
namespace PG
open DN Gf
open L2 (Key)
open PySem (PyData Str)
/-- from k by these bits, each time free -/
def Steps (rs : List Nat) (o T : Nat) : Nat → List Nat → Nat → Prop
  | k, [], S => k = S
  | k, i :: L, S => o.testBit i = true ∧ k.testBit i = false ∧ freeB rs (k ||| 2 ^ i) T = true ∧ Steps rs o T (k ||| 2 ^ i) L S
theorem xor_or_pow {q i : Nat} (h : q.testBit i = false) : (q ||| 2 ^ i) ^^^ q = 2 ^ i := by
  refine Nat.eq_of_testBit_eq fun j => ?_
  rw [Nat.testBit_xor, Nat.testBit_or, Nat.testBit_two_pow]
  by_cases e : i = j
  · subst e; simp [h]
  · simp [e]
theorem or_pow_gt {q i : Nat} (h : q.testBit i = false) : q < q ||| 2 ^ i := lt_of_bits (i := i) h (by rw [Nat.testBit_or, Nat.testBit_two_pow_self, Bool.or_true]) fun j hj => by
  rw [Nat.testBit_or, Nat.testBit_two_pow]
  have : ¬ i = j := by omega
  simp [this]
section
variable {b : Nat} {m : Mp} {T : Nat}
theorem p_sequence_to {rs : List Nat} {o S : Nat} {F : List (Nat × Option Nat)} (hb : b ≤ 10) (h : SetsB b rs o T F) (hS : S ∈ F.map (·.1)) : ∃ L : List Nat, d_sequence_to [kvD oN F, iN S] = .ok [] (.own (.lst (L.map iN))) ∧ Steps rs o T 0 L S := by
  have hp10 : 2 ^ b ≤ 2 ^ 10 := Nat.pow_le_pow_right (by decide) hb
  have hlt : ∀ k ∈ F.map (·.1), k < 2 ^ b := fun k hk => by
    obtain ⟨p, hp, rfl⟩ := List.mem_map.mp hk
    exact h.lt p hp
  obtain ⟨ρ', e, B, x1, y3, rfl, hB⟩ := while_fuel (c := x_sequence_to_1) (b := x_sequence_to_2)
    (fun n ρ => ∃ (B : List Nat) (k : Nat) (x1 y3 : Sl), ρ = [.ln (kvD oN F), x1, .own (.lst (B.map iN)), y3] ∧ n = k ∧ (x1 = .ln (iN k) ∨ x1 = .fz (iN k)) ∧ k ∈ F.map (·.1) ∧ Steps rs o T k B.reverse S ∧ B.length + k ≤ 2000)
    (fun ρ => ∃ (B : List Nat) (x1 y3 : Sl), ρ = [.ln (kvD oN F), x1, .own (.lst (B.map iN)), y3] ∧ Steps rs o T 0 B.reverse S)
    (n := S) (ρ := [.ln (kvD oN F), .ln (iN S), .own (.lst (([] : List Nat).map iN)), .un]) (by have := hlt S hS; omega) ⟨[], S, _, _, rfl, rfl, .inl rfl, hS, rfl, by have := hlt S hS; simp; omega⟩ (by
    rintro k ρ ⟨B, k', x1, y3, rfl, rfl, hx1, hk, hB, hBl⟩
    by_cases c : k = 0
    · subst c
      have e : x_sequence_to_1 [.ln (kvD oN F), x1, .own (.lst (B.map iN)), y3] = .ok [.ln (kvD oN F), x1, .own (.lst (B.map iN)), y3] false := by
        generalize kvD oN F = KF at *
        generalize B.map iN = BB at *
        rcases hx1 with rfl | rfl <;> simp [x_sequence_to_1]
      rw [e]
      exact ⟨B, _, _, rfl, hB⟩
    · have e : x_sequence_to_1 [.ln (kvD oN F), x1, .own (.lst (B.map iN)), y3] = .ok [.ln (kvD oN F), x1, .own (.lst (B.map iN)), y3] true := by
        generalize kvD oN F = KF at *
        generalize B.map iN = BB at *
        rcases hx1 with rfl | rfl <;> simp [x_sequence_to_1, c]
      rw [e]
      show Goes _ (x_sequence_to_2 _)
      obtain ⟨v, ev, hv⟩ := lkA_some hk
      rcases h.par _ hv with q0 | ⟨q, i, a1, a2, a3, a4, a5, a6⟩
      · exact absurd q0 c
      · simp only at a1 a5 a6
        subst a1
        have eix := kv_ix oN F k
        rw [ev] at eix
        have eix : gIx (kvD oN F) (iN k) = some (.fz (iN q)) := eix
        have hkq : q < k := by rw [a5]; exact or_pow_gt a4
        have hx : k ^^^ q = 2 ^ i := by rw [a5]; exact xor_or_pow a4
        have hBl6 : (B.map iN).length ≤ 100000 := by rw [List.length_map]; omega
        refine Goes.of (ρ := [.ln (kvD oN F), .fz (iN q), .own (.lst ((B ++ [i]).map iN)), .fz (iN q)]) ?_ ⟨q, by omega, B ++ [i], q, _, _, rfl, rfl, .inr rfl, a2, ?_, by rw [List.length_append, List.length_singleton]; omega⟩
        · rw [List.map_append, List.map_singleton]
          generalize kvD oN F = KF at *
          generalize B.map iN = BB at *
          rcases hx1 with rfl | rfl <;> simp [x_sequence_to_2, eix, hx, hBl6]
        · rw [List.reverse_append]
          exact ⟨a3, a4, by rw [← a5]; exact a6, by rw [← a5]; exact hB⟩)
  refine ⟨B.reverse, ?_, hB⟩
  have e : dWhile x_sequence_to_1 x_sequence_to_2 fuel [.ln (kvD oN F), .ln (iN S), .own (.lst []), .un] = _ := e
  have er : gRev (.lst (B.map iN)) = some (.own (.lst (B.reverse.map iN))) := by rw [List.map_reverse]; rfl
  clear hB
  generalize kvD oN F = KF at *
  generalize B.reverse.map iN = BR at *
  generalize B.map iN = BB at *
  simp [d_sequence_to, b_sequence_to, e, er]
/-- the cost of a set -/
def costN (b : Nat) (m : Mp) (T : Nat) : Nat := (bitsN (onceM b m T)).length + 2 * (bitsN T).length
theorem p_cost_of (hb : b ≤ 60) (h : Map b m) (hT : T < 2 ^ b) : d_cost_of [mD m, iN T] = .ok [] (.fz (iN (costN b m T))) := by
  have hlt := onceM_lt (b := b) (m := m) (T := T)
  have e1 := p_once_of (twice := T) (show b ≤ 60 by omega) h
  have e2 := p_bits_of (n := onceM b m T) (k := b) hlt (by omega)
  have e3 := p_bits_of (n := T) (k := b) hT (by omega)
  have l1 : ((bitsN (onceM b m T)).map iN).length = (bitsN (onceM b m T)).length := List.length_map _
  have l2 : ((bitsN T).map iN).length = (bitsN T).length := List.length_map _
  have l3 : (bitsN T).length ≤ b := by
    refine nodup_le (bitsN_nodup T) fun i hi => ?_
    rcases Nat.lt_or_ge i b with q | q
    · exact q
    · have := mem_bitsN.mp hi
      rw [Nat.testBit_lt_two_pow (Nat.lt_of_lt_of_le hT (Nat.pow_le_pow_right (by decide) q))] at this; cases this
  have eg : gMul (iN 2) (iN (bitsN T).length) = some (.fz (iN (2 * (bitsN T).length))) := gMul_l (by decide)
  unfold costN
  generalize (bitsN (onceM b m T)).map iN = A at *
  generalize (bitsN T).map iN = C at *
  simp only [mD] at *
  generalize m.1.map iN = MM at *
  simp [d_cost_of, b_cost_of, e1, e2, e3, l1, l2, eg]
def leP (p q : Nat × Nat) : Bool := decide (p.1 < q.1 ∨ (p.1 = q.1 ∧ p.2 ≤ q.2))
def encP (p : Nat × Nat) : PyData := .tuple [.int p.1, .int p.2]
theorem pys_tN (ps : List (Nat × Nat)) : pys (ps.map tN) = some (ps.map encP) := by
  induction ps with
  | nil => rfl
  | cons p ps ih =>
    rw [List.map_cons, List.map_cons]
    show (match py (tN p), pys (ps.map tN) with
      | some p, some ps => some (p :: ps)
      | _, _ => none) = _
    rw [ih]
    rfl
theorem gSortD_tN (ps : List (Nat × Nat)) : gSortD [.lst (ps.map tN)] = some (.own (.lst ((ps.mergeSort leP).map tN))) := by
  show (pys (ps.map tN)).bind _ = _
  rw [pys_tN, Option.bind_some, if_pos]
  · congr 3
    unfold sortDD
    have ez : (ps.map tN).zip (ps.map encP) = ps.map fun p => (tN p, encP p) := by
      induction ps with
      | nil => rfl
      | cons p ps ih => simp [ih]
    rw [ez]
    have hle : PySem.W.dataLe false encP = leP := by
      have := PySem.W.dataLe_ii (β := Nat × Nat) (fun p => (p.1 : Int)) (fun p => (p.2 : Int))
      refine Eq.trans this ?_
      funext p q
      unfold leP
      rw [decide_eq_decide]
      omega
    have := PySem.W.sort_maps (r := leP) (s := PySem.W.dataLe false (Prod.snd : D × PyData → PyData)) (fun p : Nat × Nat => (tN p, encP p)) (l := ps) fun p _ q _ => by
      rw [← hle]; rfl
    rw [← this, List.map_map]
    rfl
  · unfold alkB
    rw [Bool.and_eq_true, Bool.and_eq_true, Bool.or_eq_true]
    refine ⟨⟨List.all_eq_true.mpr fun p hp => List.all_eq_true.mpr fun q hq => ?_, .inl (List.all_eq_true.mpr fun p hp => ?_)⟩, List.all_eq_true.mpr fun p hp => ?_⟩
    · obtain ⟨a, _, rfl⟩ := List.mem_map.mp hp
      obtain ⟨c, _, rfl⟩ := List.mem_map.mp hq
      rfl
    · obtain ⟨a, _, rfl⟩ := List.mem_map.mp hp
      rfl
    · obtain ⟨a, _, rfl⟩ := List.mem_map.mp hp
      rfl
theorem leP_trans (p q r : Nat × Nat) : leP p q = true → leP q r = true → leP p r = true := by
  unfold leP
  simp only [decide_eq_true_eq]
  omega
theorem leP_total (p q : Nat × Nat) : (leP p q || leP q p) = true := by
  unfold leP
  rw [Bool.or_eq_true, decide_eq_true_eq, decide_eq_true_eq]
  omega
end
end PG
namespace PG
open DN Gf
open L2 (Key)
open PySem (PyData Str)
/-- this set serves -/
def Srv (b : Nat) (m : Mp) (T : Nat) : Prop := Rch m.1 (onceM b m T) T (onceM b m T)
section
variable {b : Nat} {m : Mp} {T : Nat}
theorem onceM_bit (i : Nat) : (onceM b m T).testBit i = (decide (i ∈ chg b m) && !T.testBit i) := by
  unfold onceM
  rw [testBit_andN, mk_bit i (chg_nd b m)]
theorem srv_full : Srv b m (2 ^ b - 1) := by
  have : onceM b m (2 ^ b - 1) = 0 := by
    refine Nat.eq_of_testBit_eq fun i => ?_
    rw [onceM_bit, Nat.zero_testBit, Nat.testBit_two_pow_sub_one]
    by_cases h : i ∈ chg b m
    · simp [chg_lt i h]
    · simp [h]
  unfold Srv
  rw [this]
  exact .zero
theorem p_best_with (hb : b ≤ 10) (h : Map b m) : ∃ (T : Nat) (L : List Nat), d_best_with_sequence [mD m] = .ok [] (.tp [.fz (iN T), .own (.lst (L.map iN))]) ∧ T < 2 ^ b ∧ Steps m.1 (onceM b m T) T 0 L (onceM b m T) ∧ Srv b m T ∧ ∀ T', T' < 2 ^ b → Srv b m T' → leP (costN b m T, T) (costN b m T', T') = true := by
  have hp10 : 2 ^ b ≤ 2 ^ 10 := Nat.pow_le_pow_right (by decide) hb
  have hml : (m.1.map iN).length = b := by rw [List.length_map]; exact h.len
  have e1 := lc_map (g := store 3) (t := dYes) (f := x_best_with_sequence_1) (vs := [3]) (ρ := [.fz (mD m), .un, .un, .un, .un, .un]) iN (fun T => tN (costN b m T, T)) (xs := List.range (2 ^ b)) (fun T hT => by
    have e := p_cost_of (show b ≤ 60 by omega) h (List.mem_range.mp hT)
    generalize costN b m T = c at *
    generalize mD m = MM at *
    simp [x_best_with_sequence_1, e, tN]) (by rw [List.length_range]; omega)
  have e2 : (List.range (2 ^ b)).map (fun T => tN (costN b m T, T)) = ((List.range (2 ^ b)).map fun T => (costN b m T, T)).map tN := by rw [List.map_map]; rfl
  rw [e2] at e1
  have e3 := gSortD_tN ((List.range (2 ^ b)).map fun T => (costN b m T, T))
  have hmem : ∀ p, p ∈ ((List.range (2 ^ b)).map fun T => (costN b m T, T)).mergeSort leP ↔ p.2 < 2 ^ b ∧ p.1 = costN b m p.2 := fun p => by
    rw [(List.mergeSort_perm _ _).mem_iff, List.mem_map]
    constructor
    · rintro ⟨T, hT, rfl⟩
      exact ⟨List.mem_range.mp hT, rfl⟩
    · rintro ⟨h1, h2⟩
      exact ⟨p.2, List.mem_range.mpr h1, by rw [← h2]⟩
  have hsrt := List.pairwise_mergeSort (le := leP) leP_trans leP_total ((List.range (2 ^ b)).map fun T => (costN b m T, T))
  generalize ((List.range (2 ^ b)).map fun T => (costN b m T, T)).mergeSort leP = Q at *
  obtain ⟨ρ', fl, e4, hc⟩ := loopX_l (g := storeN [2, 3]) (b := x_best_with_sequence_2) tN (fun d ρ => (∃ y2 y3 y4 y5, ρ = [.fz (mD m), .ln (.lst (Q.map tN)), y2, y3, y4, y5]) ∧ ∀ p ∈ d, ¬ Srv b m p.2)
    (fun d p t ρ r => Srv b m p.2 ∧ ∃ L y2 y4 y5, ρ = [.fz (mD m), .ln (.lst (Q.map tN)), y2, .fz (iN p.2), y4, y5] ∧ r = .tp [.bor 3, .own (.lst (L.map iN))] ∧ Steps m.1 (onceM b m p.2) p.2 0 L (onceM b m p.2) ∧ ∀ p ∈ d, ¬ Srv b m p.2) (fun _ _ _ _ => False) (xs := Q) (ρ := [.fz (mD m), .ln (.lst (Q.map tN)), .un, .un, .un, .un]) ⟨⟨_, _, _, _, rfl⟩, fun p hp => (nomatch hp)⟩ (by
    rintro d ⟨c, T⟩ t ρ hx ⟨⟨y2, y3, y4, y5, rfl⟩, hd⟩
    have hq : (c, T) ∈ Q := by rw [hx]; simp
    have hT := ((hmem _).mp hq).1
    simp only at hT
    obtain ⟨F, f1, f2⟩ := p_sets_before hb h hT
    have f3 := p_once_of (twice := T) (show b ≤ 60 by omega) h
    have f4 := kv_in oN F (onceM b m T)
    by_cases hS : Srv b m T
    · have hk := (f2.iff _).mpr hS
      rw [decide_eq_true hk] at f4
      obtain ⟨L, f5, f6⟩ := p_sequence_to hb f2 hk
      have : GoesX (fun ρ => (∃ y2 y3 y4 y5, ρ = [.fz (mD m), .ln (.lst (Q.map tN)), y2, y3, y4, y5]) ∧ ∀ p ∈ d ++ [(c, T)], ¬ Srv b m p.2) (fun ρ r => Srv b m (c, T).2 ∧ ∃ L y2 y4 y5, ρ = [.fz (mD m), .ln (.lst (Q.map tN)), y2, .fz (iN (c, T).2), y4, y5] ∧ r = .tp [.bor 3, .own (.lst (L.map iN))] ∧ Steps m.1 (onceM b m (c, T).2) (c, T).2 0 L (onceM b m (c, T).2) ∧ ∀ p ∈ d, ¬ Srv b m p.2) (fun _ => False) (.ok [.fz (mD m), .ln (.lst (Q.map tN)), .fz (iN c), .fz (iN T), .own (kvD oN F), .fz (iN (onceM b m T))] (.rt (.tp [.bor 3, .own (.lst (L.map iN))]))) := ⟨hS, L, _, _, _, rfl, rfl, f6, hd⟩
      generalize hP : (fun ρ => (∃ y2 y3 y4 y5, ρ = [Sl.fz (mD m), .ln (.lst (Q.map tN)), y2, y3, y4, y5]) ∧ ∀ p ∈ d ++ [(c, T)], ¬ Srv b m p.2) = P0 at *
      generalize hQ0 : (fun ρ r => Srv b m (c, T).2 ∧ ∃ (L : List Nat) (y2 y4 y5 : Sl), ρ = [Sl.fz (mD m), .ln (.lst (Q.map tN)), y2, .fz (iN (c, T).2), y4, y5] ∧ r = DN.R.tp [.bor 3, .own (.lst (L.map iN))] ∧ Steps m.1 (onceM b m (c, T).2) (c, T).2 0 L (onceM b m (c, T).2) ∧ ∀ p ∈ d, ¬ Srv b m p.2) = Q0 at *
      clear hP hQ0
      generalize kvD oN F = KF at *
      generalize Q.map tN = QQ at *
      generalize L.map iN = LL at *
      generalize onceM b m T = o at *
      generalize mD m = MM at *
      simpa [x_best_with_sequence_2, tN, f1, f3, f4, f5] using this
    · have hk : ¬ onceM b m T ∈ F.map (·.1) := fun q => hS ((f2.iff _).mp q)
      rw [decide_eq_false hk] at f4
      have : GoesX (fun ρ => (∃ y2 y3 y4 y5, ρ = [.fz (mD m), .ln (.lst (Q.map tN)), y2, y3, y4, y5]) ∧ ∀ p ∈ d ++ [(c, T)], ¬ Srv b m p.2) (fun ρ r => Srv b m (c, T).2 ∧ ∃ L y2 y4 y5, ρ = [.fz (mD m), .ln (.lst (Q.map tN)), y2, .fz (iN (c, T).2), y4, y5] ∧ r = .tp [.bor 3, .own (.lst (L.map iN))] ∧ Steps m.1 (onceM b m (c, T).2) (c, T).2 0 L (onceM b m (c, T).2) ∧ ∀ p ∈ d, ¬ Srv b m p.2) (fun _ => False) (.ok [.fz (mD m), .ln (.lst (Q.map tN)), .fz (iN c), .fz (iN T), .own (kvD oN F), .fz (iN (onceM b m T))] .nx) := by
        refine ⟨⟨_, _, _, _, rfl⟩, fun p hp => ?_⟩
        rcases List.mem_append.mp hp with hp | hp
        · exact hd p hp
        · rw [List.mem_singleton.mp hp]; exact hS
      generalize hP : (fun ρ => (∃ y2 y3 y4 y5, ρ = [Sl.fz (mD m), .ln (.lst (Q.map tN)), y2, y3, y4, y5]) ∧ ∀ p ∈ d ++ [(c, T)], ¬ Srv b m p.2) = P0 at *
      generalize hQ0 : (fun ρ r => Srv b m (c, T).2 ∧ ∃ (L : List Nat) (y2 y4 y5 : Sl), ρ = [Sl.fz (mD m), .ln (.lst (Q.map tN)), y2, .fz (iN (c, T).2), y4, y5] ∧ r = DN.R.tp [.bor 3, .own (.lst (L.map iN))] ∧ Steps m.1 (onceM b m (c, T).2) (c, T).2 0 L (onceM b m (c, T).2) ∧ ∀ p ∈ d, ¬ Srv b m p.2) = Q0 at *
      clear hP hQ0
      generalize kvD oN F = KF at *
      generalize Q.map tN = QQ at *
      generalize onceM b m T = o at *
      generalize mD m = MM at *
      simpa [x_best_with_sequence_2, tN, f1, f3, f4] using this)
  have hb6 : b ≤ 100000 := by omega
  have hb7 : 2 ^ b ≤ 1000000 := by omega
  rcases hc with ⟨rfl, ⟨y2, y3, y4, y5, rfl⟩, hall⟩ | ⟨_, _, _, _, _, f⟩ | ⟨d, ⟨c, T⟩, t, r, hx, rfl, hS, L, y2, y4, y5, rfl, rfl, hst, hd⟩
  · have hp1 : 2 ^ b - 1 < 2 ^ b := by have := Nat.two_pow_pos b; omega
    exact absurd (srv_full (b := b) (m := m)) (hall (costN b m (2 ^ b - 1), 2 ^ b - 1) ((hmem _).mpr ⟨hp1, rfl⟩))
  · exact f.elim
  · have hT := (hmem (c, T)).mp (by rw [hx]; simp)
    simp only at hT hS hst
    refine ⟨T, L, ?_, hT.1, hst, hS, fun T' h1 h2 => ?_⟩
    · clear hsrt hmem hx hd hS hst
      generalize Q.map tN = QQ at *
      generalize L.map iN = LL at *
      generalize ((List.range (2 ^ b)).map fun T => (costN b m T, T)).map tN = RR at *
      simp only [mD] at *
      generalize m.1.map iN = MM at *
      simp [d_best_with_sequence, b_best_with_sequence, hml, hb6, hb7, e1, e3, e4]
    · have hq : (costN b m T', T') ∈ Q := (hmem _).mpr ⟨h1, rfl⟩
      rw [← hT.2]
      rw [hx] at hsrt hq
      have hq2 := (List.pairwise_append.mp hsrt).2.1
      rcases List.mem_append.mp hq with hq | hq
      · exact absurd h2 (hd _ hq)
      · rcases List.mem_cons.mp hq with hq | hq
        · rw [hq]
          unfold leP
          exact decide_eq_true (.inr ⟨rfl, Nat.le_refl _⟩)
        · exact (List.pairwise_cons.mp hq2).1 _ hq
end
end PG
namespace PG
open DN Gf
open L2 (Key)
open PySem (PyData Str)
def sg (m : Mp) (i : Nat) : Nat := Nat.log2 (m.1.getD i 0)
/-- each row has one bit -/
structure Mov (b : Nat) (m : Mp) : Prop where
  map : Map b m
  pw : ∀ i, i < b → m.1.getD i 0 = 2 ^ sg m i
  lt : ∀ i, i < b → sg m i < b
  inj : ∀ i j, i < b → j < b → sg m i = sg m j → i = j
theorem pow_of_one {x : Nat} (h0 : x ≠ 0) (h : x &&& (x - 1) = 0) : x = 2 ^ Nat.log2 x := by
  have h1 := Nat.log2_self_le h0
  have h2 := Nat.lt_log2_self (n := x)
  refine Classical.byContradiction fun c => ?_
  have h3 : 2 ^ Nat.log2 x ≤ x - 1 := by omega
  have b1 : x.testBit (Nat.log2 x) = true := Nat.testBit_of_two_pow_le_and_two_pow_add_one_gt h1 h2
  have b2 : (x - 1).testBit (Nat.log2 x) = true := Nat.testBit_of_two_pow_le_and_two_pow_add_one_gt h3 (by omega)
  have : (x &&& (x - 1)).testBit (Nat.log2 x) = true := by rw [Nat.testBit_and, b1, b2]; rfl
  rw [h, Nat.zero_testBit] at this
  cases this
theorem mov_of {b : Nat} {m : Mp} (h : Map b m) (hp : ∀ r ∈ m.1, r &&& (r - 1) = 0) : Mov b m := by
  have hl := h.len
  have hg : ∀ i, i < b → m.1.getD i 0 = m.1[i]! ∧ m.1.getD i 0 ∈ m.1 ∧ sel m.1 (2 ^ i) = m.1.getD i 0 := fun i hi => by
    have hi2 : i < m.1.length := by omega
    refine ⟨by simp [List.getD, hi2], by rw [List.getD_eq_getElem?_getD, List.getElem?_eq_getElem hi2]; exact List.getElem_mem _, ?_⟩
    rw [sel_pow m.1 i hi2, List.getD_eq_getElem?_getD, List.getElem?_eq_getElem hi2]; rfl
  have hne : ∀ i, i < b → m.1.getD i 0 ≠ 0 := fun i hi e => by
    have := h.ind (Nat.pow_lt_pow_right (by decide) hi) (by rw [(hg i hi).2.2]; exact e)
    have := Nat.two_pow_pos i
    omega
  have pw : ∀ i, i < b → m.1.getD i 0 = 2 ^ sg m i := fun i hi => pow_of_one (hne i hi) (hp _ (hg i hi).2.1)
  refine ⟨h, pw, fun i hi => ?_, fun i j hi hj e => ?_⟩
  · have := h.row _ (hg i hi).2.1
    rw [pw i hi] at this
    exact (Nat.pow_lt_pow_iff_right (by decide)).mp this
  · refine Classical.byContradiction fun c => ?_
    have hx : 2 ^ i ^^^ 2 ^ j < 2 ^ b := Nat.xor_lt_two_pow (Nat.pow_lt_pow_right (by decide) hi) (Nat.pow_lt_pow_right (by decide) hj)
    have := h.ind hx (by rw [sel_xor, (hg i hi).2.2, (hg j hj).2.2, pw i hi, pw j hj, e, Nat.xor_self])
    have : (2 ^ i ^^^ 2 ^ j).testBit i = true := by
      rw [Nat.testBit_xor, Nat.testBit_two_pow, Nat.testBit_two_pow]
      have : ¬ j = i := fun q => c q.symm
      simp [this]
    simp_all
section
variable {b : Nat} {m : Mp} {T : Nat}
theorem freeB_mov {S : Nat} (h : Mov b m) (hS : S < 2 ^ b) : freeB m.1 S T = true ↔ ∀ i, S.testBit i = true → (S ||| T).testBit (sg m i) = true := by
  have hb : ∀ i, S.testBit i = true → i < b := fun i hi => Classical.byContradiction fun c => by
    rw [Nat.testBit_lt_two_pow (Nat.lt_of_lt_of_le hS (Nat.pow_le_pow_right (by decide) (Nat.le_of_not_lt c)))] at hi
    cases hi
  have hrow : ∀ i, S.testBit i = true → m.1.getD i 0 &&& (S ||| T) = if (S ||| T).testBit (sg m i) = true then 2 ^ sg m i else 0 := fun i hi => by
    rw [h.pw i (hb i hi)]
    refine Nat.eq_of_testBit_eq fun j => ?_
    rw [Nat.testBit_and, Nat.testBit_two_pow]
    by_cases e : sg m i = j
    · subst e
      cases c : (S ||| T).testBit (sg m i) <;> simp
    · cases c : (S ||| T).testBit (sg m i) <;> simp [e]
  unfold freeB
  rw [decide_eq_true_eq]
  constructor
  · intro hr i hi
    refine Classical.byContradiction fun c => ?_
    have hz : 0 ∈ atB m.1 S T := List.mem_map.mpr ⟨i, mem_bitsN.mpr hi, by rw [hrow i hi, if_neg c]⟩
    have := rk_mono (ms := atB m.1 S T) (ns := (atB m.1 S T).erase 0) fun x hs => hs.sub fun a ha => by
      by_cases e : a = 0
      · rw [e]; exact .zero _
      · exact .mem ((List.mem_erase_of_ne e).mpr ha)
    have h2 := rk_le_len ((atB m.1 S T).erase 0)
    rw [List.length_erase_of_mem hz] at h2
    have h3 := List.length_pos_of_mem hz
    omega
  · intro hc
    have e : atB m.1 S T = ((bitsN S).map (sg m)).map fun i => 2 ^ i := by
      unfold atB
      rw [List.map_map]
      refine List.map_congr_left fun i hi => ?_
      have hi := mem_bitsN.mp hi
      rw [hrow i hi, if_pos (hc i hi)]
      rfl
    rw [e, rk_units _ (List.pairwise_map.mpr (List.Pairwise.imp_of_mem (fun hx hy ne q => ne (h.inj _ _ (hb _ (mem_bitsN.mp hx)) (hb _ (mem_bitsN.mp hy)) q)) (bitsN_nodup S))), List.length_map, List.length_map, List.length_map]
/-- a ring: a list that goes from each to the next, from the last to the first -/
structure Ring (b : Nat) (m : Mp) (r : List Nat) : Prop where
  ne : r ≠ []
  lt : ∀ x ∈ r, x < b
  nx : ∀ j, j + 1 < r.length → sg m (r.getD j 0) = r.getD (j + 1) 0
  la : sg m (r.getD (r.length - 1) 0) = r.getD 0 0
  mv : ∀ x ∈ r, sg m x ≠ x
theorem getD_mem {r : List Nat} {j : Nat} (h : j < r.length) : r.getD j 0 ∈ r := by
  rw [List.getD_eq_getElem?_getD, List.getElem?_eq_getElem h]; exact List.getElem_mem _
theorem mem_getD {r : List Nat} {x : Nat} (h : x ∈ r) : ∃ j, j < r.length ∧ r.getD j 0 = x := by
  obtain ⟨j, hj, e⟩ := List.getElem_of_mem h
  exact ⟨j, hj, by rw [List.getD_eq_getElem?_getD, List.getElem?_eq_getElem hj]; exact e⟩
theorem Ring.cl {r : List Nat} (h : Ring b m r) {x : Nat} (hx : x ∈ r) : sg m x ∈ r := by
  obtain ⟨j, hj, rfl⟩ := mem_getD hx
  by_cases c : j + 1 < r.length
  · rw [h.nx j c]; exact getD_mem c
  · have : j = r.length - 1 := by omega
    rw [this, h.la]
    exact getD_mem (by have := List.length_pos_iff.mpr h.ne; omega)
/-- a set that serves has a bit of each ring -/
theorem ring_hit {r : List Nat} (h : Mov b m) (hT : T < 2 ^ b) (hr : Ring b m r) (hs : Srv b m T) : ∃ x ∈ r, T.testBit x = true := by
  refine Classical.byContradiction fun c => ?_
  have hno : ∀ x ∈ r, T.testBit x = false := fun x hx => by
    cases e : T.testBit x with
    | false => rfl
    | true => exact absurd ⟨x, hx, e⟩ c
  have hlt : onceM b m T < 2 ^ b := onceM_lt
  have key : ∀ S, Rch m.1 (onceM b m T) T S → S < 2 ^ b ∧ ∀ x ∈ r, S.testBit x = false := by
    intro S q
    induction q with
    | zero => exact ⟨Nat.two_pow_pos b, fun x _ => Nat.zero_testBit x⟩
    | @more S i _ h1 h2 h3 ih =>
      have hi : i < b := Classical.byContradiction fun z => by
        rw [Nat.testBit_lt_two_pow (Nat.lt_of_lt_of_le hlt (Nat.pow_le_pow_right (by decide) (Nat.le_of_not_lt z)))] at h1
        cases h1
      have hS2 := or_pow_lt ih.1 hi
      refine ⟨hS2, fun x hx => ?_⟩
      rw [Nat.testBit_or, ih.2 x hx, Nat.testBit_two_pow, Bool.false_or]
      refine decide_eq_false fun e => ?_
      subst e
      have k := (freeB_mov h hS2).mp h3 i (by rw [Nat.testBit_or, Nat.testBit_two_pow]; simp)
      have hc := hr.cl hx
      rw [Nat.testBit_or, Nat.testBit_or, ih.2 _ hc, hno _ hc, Nat.testBit_two_pow] at k
      have := hr.mv i hx
      have : ¬ i = sg m i := fun q => this q.symm
      simp [this] at k
  obtain ⟨x, hx⟩ := List.exists_mem_of_ne_nil r hr.ne
  have h1 := (key _ hs).2 x hx
  rw [onceM_bit, hno x hx] at h1
  have : x ∈ chg b m := by
    unfold chg
    refine List.mem_filter.mpr ⟨List.mem_range.mpr (hr.lt x hx), ?_⟩
    have hm := hr.mv x hx
    have : ¬ m.1.getD x 0 = 2 ^ x := fun e => by
      rw [h.pw x (hr.lt x hx)] at e
      exact hm ((Nat.pow_right_inj (by decide)).mp e)
    rw [decide_eq_false this]; rfl
  simp [this] at h1
end
end PG
namespace PG
open DN Gf
open L2 (Key)
open PySem (PyData Str)
section
variable {b : Nat} {m : Mp} {R : List (List Nat)} {bit kn h : Nat} {r : List Nat}
structure RgI (b : Nat) (m : Mp) (k : Nat) (R : List (List Nat)) (kn : Nat) : Prop where
  ring : ∀ r ∈ R, Ring b m r
  nd : R.flatten.Nodup
  bit : ∀ i, kn.testBit i = true ↔ i ∈ R.flatten
  cov : ∀ i, i < k → sg m i ≠ i → i ∈ R.flatten
  lst : ∀ r ∈ R, ∀ x ∈ r, r.getD 0 0 ≤ x
structure RwI (b : Nat) (m : Mp) (R : List (List Nat)) (bit kn : Nat) (r : List Nat) (h : Nat) : Prop where
  nd : r.Nodup
  dj : ∀ x ∈ r, x ∉ R.flatten
  lt : ∀ x ∈ r, x < b
  mv : ∀ x ∈ r, sg m x ≠ x
  nx : ∀ j, j + 1 < r.length → sg m (r.getD j 0) = r.getD (j + 1) 0
  h0 : r = [] → h = bit
  h1 : r ≠ [] → r.getD 0 0 = bit ∧ h = sg m (r.getD (r.length - 1) 0)
  bt : ∀ i, kn.testBit i = true ↔ i ∈ R.flatten ∨ i ∈ r
  hb : h < b
theorem getD_snoc {r : List Nat} {x j : Nat} : (r ++ [x]).getD j 0 = if j < r.length then r.getD j 0 else if j = r.length then x else 0 := by
  rw [List.getD_eq_getElem?_getD, List.getD_eq_getElem?_getD]
  by_cases c : j < r.length
  · rw [if_pos c, List.getElem?_append_left c]
  · rw [if_neg c, List.getElem?_append_right (by omega)]
    by_cases c2 : j = r.length
    · rw [if_pos c2, c2]; simp
    · rw [if_neg c2]
      have : j - r.length ≠ 0 := by omega
      simp [List.getElem?_singleton, this]
theorem RwI.step (hm : Mov b m) (H : RwI b m R bit kn r h) (hbit : sg m bit ≠ bit) (hk : kn.testBit h = false) : RwI b m R bit (kn ||| 2 ^ h) (r ++ [h]) (sg m h) := by
  have hnot : h ∉ R.flatten ∧ h ∉ r := by
    constructor
    · intro q; rw [(H.bt h).mpr (.inl q)] at hk; cases hk
    · intro q; rw [(H.bt h).mpr (.inr q)] at hk; cases hk
  have hl : r ≠ [] → r.length - 1 < r.length := fun q => by have := List.length_pos_iff.mpr q; omega
  refine ⟨?_, ?_, ?_, ?_, ?_, fun q => by simp at q, fun _ => ⟨?_, ?_⟩, ?_, hm.lt h H.hb⟩
  · exact List.nodup_append.mpr ⟨H.nd, by simp, fun a ha c hc => by rw [List.mem_singleton.mp hc]; exact fun e => hnot.2 (e ▸ ha)⟩
  · intro x hx
    rcases List.mem_append.mp hx with hx | hx
    · exact H.dj x hx
    · rw [List.mem_singleton.mp hx]; exact hnot.1
  · intro x hx
    rcases List.mem_append.mp hx with hx | hx
    · exact H.lt x hx
    · rw [List.mem_singleton.mp hx]; exact H.hb
  · intro x hx
    rcases List.mem_append.mp hx with hx | hx
    · exact H.mv x hx
    · rw [List.mem_singleton.mp hx]
      by_cases c : r = []
      · rw [H.h0 c]; exact hbit
      · intro e
        obtain ⟨_, k⟩ := H.h1 c
        have hla := getD_mem (hl c)
        have : r.getD (r.length - 1) 0 = h := hm.inj _ _ (H.lt _ hla) H.hb (by rw [← k, e])
        rw [this] at hla
        exact hnot.2 hla
  · intro j hj
    rw [List.length_append, List.length_singleton] at hj
    rw [getD_snoc, getD_snoc, if_pos (by omega)]
    by_cases c : j + 1 < r.length
    · rw [if_pos c]; exact H.nx j c
    · have e : j + 1 = r.length := by omega
      rw [if_neg c, if_pos e]
      have hr : r ≠ [] := fun q => by rw [q] at e; simp at e
      rw [(H.h1 hr).2]
      congr 2
      omega
  · rw [getD_snoc]
    by_cases c : r = []
    · subst c; simp; exact H.h0 rfl
    · rw [if_pos (List.length_pos_iff.mpr c)]; exact (H.h1 c).1
  · rw [getD_snoc, List.length_append, List.length_singleton]
    simp
  · intro i
    rw [Nat.testBit_or, Nat.testBit_two_pow, List.mem_append, List.mem_singleton, ← or_assoc, ← H.bt i]
    by_cases e : h = i
    · subst e; simp
    · have : ¬ i = h := fun q => e q.symm
      simp [e, this]
theorem RwI.done (hm : Mov b m) (hI : RgI b m k R kn0) (H : RwI b m R bit kn r h) (hr : r ≠ []) (hk : kn.testBit h = true) : Ring b m r ∧ r.getD 0 0 = bit := by
  obtain ⟨k1, k2⟩ := H.h1 hr
  have hpos := List.length_pos_iff.mpr hr
  have hla : r.getD (r.length - 1) 0 ∈ r := getD_mem (by omega)
  refine ⟨⟨hr, H.lt, H.nx, ?_, H.mv⟩, k1⟩
  rw [← k2]
  rcases (H.bt h).mp hk with q | q
  · exfalso
    obtain ⟨r', hr', hh⟩ := List.mem_flatten.mp q
    have ring := hI.ring r' hr'
    obtain ⟨j, hj, e⟩ := mem_getD hh
    -- the one ahead of h in its ring
    have : ∃ x ∈ r', sg m x = h := by
      by_cases c : j = 0
      · refine ⟨r'.getD (r'.length - 1) 0, getD_mem (by omega), ?_⟩
        rw [ring.la, ← e, c]
      · refine ⟨r'.getD (j - 1) 0, getD_mem (by omega), ?_⟩
        rw [ring.nx (j - 1) (by omega), ← e]
        congr 1; omega
    obtain ⟨x, hx, ex⟩ := this
    have : x = r.getD (r.length - 1) 0 := hm.inj _ _ (ring.lt x hx) (H.lt _ hla) (by rw [ex, k2])
    exact H.dj _ hla (by rw [← this]; exact List.mem_flatten.mpr ⟨r', hr', hx⟩)
  · obtain ⟨j, hj, e⟩ := mem_getD q
    by_cases c : j = 0
    · rw [← e, c]
    · exfalso
      have h1 := H.nx (j - 1) (by omega)
      rw [show j - 1 + 1 = j by omega, e, k2] at h1
      have h2 := hm.inj _ _ (H.lt _ (getD_mem (by omega))) (H.lt _ hla) h1
      have e1 : r.getD (j - 1) 0 = r[j - 1]'(by omega) := by rw [List.getD_eq_getElem?_getD, List.getElem?_eq_getElem (by omega)]; rfl
      have e2 : r.getD (r.length - 1) 0 = r[r.length - 1]'(by omega) := by rw [List.getD_eq_getElem?_getD, List.getElem?_eq_getElem (by omega)]; rfl
      rw [e1, e2] at h2
      exact absurd h2 (List.pairwise_iff_getElem.mp H.nd (j - 1) (r.length - 1) (by omega) (by omega) (by omega))
theorem RgI.step {k k0 : Nat} {kn0 : Nat} (hm : Mov b m) (hI : RgI b m bit R kn0) (hbit : sg m bit ≠ bit) (H : RwI b m R bit kn r h) (hr : r ≠ []) (hk : kn.testBit h = true) : RgI b m (bit + 1) (R ++ [r]) kn := by
  obtain ⟨hR, h0⟩ := H.done hm hI hr hk
  have hin : bit ∈ r := by rw [← h0]; exact getD_mem (List.length_pos_iff.mpr hr)
  have hfl : (R ++ [r]).flatten = R.flatten ++ r := by simp
  refine ⟨fun q hq => ?_, ?_, fun i => ?_, fun i hi hmv => ?_, fun q hq x hx => ?_⟩
  · rcases List.mem_append.mp hq with hq | hq
    · exact hI.ring q hq
    · rw [List.mem_singleton.mp hq]; exact hR
  · rw [hfl]
    exact List.nodup_append.mpr ⟨hI.nd, H.nd, fun a ha c hc e => H.dj c hc (e ▸ ha)⟩
  · rw [hfl, List.mem_append]; exact H.bt i
  · rw [hfl, List.mem_append]
    by_cases c : i = bit
    · rw [c]; exact .inr hin
    · exact .inl (hI.cov i (by omega) hmv)
  · rcases List.mem_append.mp hq with hq | hq
    · exact hI.lst q hq x hx
    · rw [List.mem_singleton.mp hq] at hx ⊢
      rw [h0]
      refine Classical.byContradiction fun c => H.dj x hx (hI.cov x (by omega) (H.mv x hx))
theorem p_ring_in {kn0 : Nat} {s0 s2 s5 y6 y7 : Sl} (hb : b ≤ 60) (hm : Mov b m) (hI : RgI b m bit R kn0) (hbb : bit < b) (hbit : sg m bit ≠ bit) (hk0 : kn0.testBit bit = false) :
    ∃ (r : List Nat) (kn : Nat) (y7 : Sl), dWhile x_rings_of_1 x_rings_of_2 fuel [s0, .fz (.lst (m.1.map iN)), s2, .fz (iN kn0), .fz (iN bit), s5, .own (.lst []), .fz (iN bit)] = .ok [s0, .fz (.lst (m.1.map iN)), s2, .fz (iN kn), .fz (iN bit), s5, .own (.lst (r.map iN)), y7] .nx ∧ RgI b m (bit + 1) (R ++ [r]) kn := by
  have hml := hm.map.len
  obtain ⟨ρ', e, r, kn, y7, rfl, q⟩ := while_fuel (c := x_rings_of_1) (b := x_rings_of_2)
    (fun n ρ => ∃ (r : List Nat) (kn h : Nat), ρ = [s0, .fz (.lst (m.1.map iN)), s2, .fz (iN kn), .fz (iN bit), s5, .own (.lst (r.map iN)), .fz (iN h)] ∧ n = b - r.length ∧ r.length ≤ b ∧ RwI b m R bit kn r h)
    (fun ρ => ∃ (r : List Nat) (kn : Nat) (y7 : Sl), ρ = [s0, .fz (.lst (m.1.map iN)), s2, .fz (iN kn), .fz (iN bit), s5, .own (.lst (r.map iN)), y7] ∧ RgI b m (bit + 1) (R ++ [r]) kn)
    (n := b) (ρ := [s0, .fz (.lst (m.1.map iN)), s2, .fz (iN kn0), .fz (iN bit), s5, .own (.lst (([] : List Nat).map iN)), .fz (iN bit)]) (by omega)
    ⟨[], kn0, bit, rfl, rfl, Nat.zero_le _, ⟨List.nodup_nil, fun x hx => (nomatch hx), fun x hx => (nomatch hx), fun x hx => (nomatch hx), fun j hj => by simp at hj, fun _ => rfl, fun q => absurd rfl q, fun i => by rw [hI.bit i]; simp, hbb⟩⟩ (by
    rintro n ρ ⟨r, kn, h, rfl, rfl, hrl, H⟩
    have hl7 : (r.map iN).length ≤ 100000 := by rw [List.length_map]; omega
    have hh6 : h ≤ 100000 := by have := H.hb; omega
    cases c : kn.testBit h with
    | false =>
      have e : x_rings_of_1 [s0, .fz (.lst (m.1.map iN)), s2, .fz (iN kn), .fz (iN bit), s5, .own (.lst (r.map iN)), .fz (iN h)] = .ok [s0, .fz (.lst (m.1.map iN)), s2, .fz (iN kn), .fz (iN bit), s5, .own (.lst (r.map iN)), .fz (iN h)] true := by
        generalize m.1.map iN = M1 at *
        generalize r.map iN = RR at *
        simp [x_rings_of_1, hh6, c]
      rw [e]
      show Goes _ (x_rings_of_2 _)
      have H2 := H.step hm hbit c
      have hrl2 : r.length + 1 ≤ b := by
        have := nodup_le (n := b) H2.nd H2.lt
        rwa [List.length_append, List.length_singleton] at this
      have ei : gIx (.lst (m.1.map iN)) (iN h) = some (.fz (iN (2 ^ sg m h))) := by
        have := H.hb
        have hh : h < m.1.length := by omega
        have hp := hm.pw h this
        rw [List.getD_eq_getElem?_getD, List.getElem?_eq_getElem hh] at hp
        rw [gIx_lst, List.getElem?_map, List.getElem?_eq_getElem hh]
        simp only [Option.map_some, Option.getD_some] at hp ⊢
        rw [hp]
      refine Goes.of (ρ := [s0, .fz (.lst (m.1.map iN)), s2, .fz (iN (kn ||| 2 ^ h)), .fz (iN bit), s5, .own (.lst ((r ++ [h]).map iN)), .fz (iN (sg m h))]) ?_ ⟨b - (r ++ [h]).length, by rw [List.length_append, List.length_singleton]; omega, r ++ [h], _, _, rfl, rfl, by rw [List.length_append, List.length_singleton]; exact hrl2, H2⟩
      rw [List.map_append, List.map_singleton]
      generalize m.1.map iN = M1 at *
      generalize r.map iN = RR at *
      generalize sg m h = z at *
      simp [x_rings_of_2, hh6, hl7, ei]
    | true =>
      have e : x_rings_of_1 [s0, .fz (.lst (m.1.map iN)), s2, .fz (iN kn), .fz (iN bit), s5, .own (.lst (r.map iN)), .fz (iN h)] = .ok [s0, .fz (.lst (m.1.map iN)), s2, .fz (iN kn), .fz (iN bit), s5, .own (.lst (r.map iN)), .fz (iN h)] false := by
        generalize m.1.map iN = M1 at *
        generalize r.map iN = RR at *
        simp [x_rings_of_1, hh6, c]
      rw [e]
      have hr : r ≠ [] := fun q => by
        subst q
        have := H.h0 rfl
        subst this
        have := (H.bt h).mp c
        rcases this with q | q
        · rw [(hI.bit h).mpr q] at hk0; cases hk0
        · cases q
      exact ⟨r, kn, _, rfl, RgI.step (k := 0) (k0 := 0) hm hI hbit H hr c⟩)
  exact ⟨r, kn, y7, e, q⟩
theorem RgI.skip (hI : RgI b m bit R kn) (hs : sg m bit = bit ∨ kn.testBit bit = true) : RgI b m (bit + 1) R kn := by
  refine ⟨hI.ring, hI.nd, hI.bit, fun i hi hmv => ?_, hI.lst⟩
  by_cases c : i = bit
  · subst c
    rcases hs with h | h
    · exact absurd h hmv
    · exact (hI.bit i).mp h
  · exact hI.cov i (by omega) hmv
def rgD (r : List Nat) : D := .lst (r.map iN)
theorem p_rings_of (hb : b ≤ 60) (hm : Mov b m) : ∃ (R : List (List Nat)) (kn : Nat), d_rings_of [mD m] = .ok [] (.own (.lst (R.map rgD))) ∧ RgI b m b R kn := by
  have hml := hm.map.len
  have key : ∃ (ρ' : DN.Env), dLoop (storeN [4, 5]) x_rings_of_3 (enumItems (m.1.map iN)) [.ln (mD m), .fz (.lst (m.1.map iN)), .own (.lst []), .fz (iN 0), .un, .un, .un, .un] = .ok ρ' .nx ∧ ∃ (R : List (List Nat)) (kn : Nat) (y4 y5 y6 y7 : Sl), ρ' = [.ln (mD m), .fz (.lst (m.1.map iN)), .own (.lst (R.map rgD)), .fz (iN kn), y4, y5, y6, y7] ∧ RgI b m m.1.length R kn := by
    refine loop_e (g := storeN [4, 5]) (b := x_rings_of_3) iN (fun d ρ => ∃ (R : List (List Nat)) (kn : Nat) (y4 y5 y6 y7 : Sl), ρ = [.ln (mD m), .fz (.lst (m.1.map iN)), .own (.lst (R.map rgD)), .fz (iN kn), y4, y5, y6, y7] ∧ RgI b m d.length R kn) (xs := m.1) ⟨[], 0, _, _, _, _, rfl, ⟨fun r hr => (nomatch hr), List.nodup_nil, fun i => by simp, fun i hi => absurd hi (Nat.not_lt_zero _), fun r hr => (nomatch hr)⟩⟩ ?_
    rintro d row t ρ hx ⟨R, kn, y4, y5, y6, y7, rfl, hI⟩
    have hd := len_app hx
    have hdb : d.length < b := by omega
    have hrow : row = 2 ^ sg m d.length := by
      rw [← hm.pw d.length hdb]
      have : m.1[d.length]? = some row := by rw [hx]; simp
      rw [List.getD_eq_getElem?_getD, this]; rfl
    have hl1 : (d ++ [row]).length = d.length + 1 := by simp
    rw [hl1]
    have hd6 : d.length ≤ 100000 := by omega
    have hRl : R.length ≤ b := by
      have h1 : R.length ≤ R.flatten.length := by
        have hr := hI.ring
        clear hI hx hd hdb hrow
        induction R with
        | nil => simp
        | cons r R ih =>
          have := List.length_pos_iff.mpr (hr r (by simp)).ne
          have := ih fun q hq => hr q (by simp [hq])
          rw [List.flatten_cons, List.length_append, List.length_cons]
          omega
      have h2 := nodup_le (n := b) hI.nd fun x hx => by
        obtain ⟨r, hr, hx⟩ := List.mem_flatten.mp hx
        exact (hI.ring r hr).lt x hx
      omega
    have hRl6 : (R.map rgD).length ≤ 100000 := by rw [List.length_map]; omega
    have hpe : decide (2 ^ sg m d.length = 2 ^ d.length) = decide (sg m d.length = d.length) := decide_eq_decide.mpr (Nat.pow_right_inj (by decide))
    subst hrow
    by_cases c1 : sg m d.length = d.length
    · refine Goes.of (ρ := [.ln (mD m), .fz (.lst (m.1.map iN)), .own (.lst (R.map rgD)), .fz (iN kn), .fz (iN d.length), .fz (iN (2 ^ sg m d.length)), y6, y7]) ?_ ⟨R, kn, _, _, _, _, rfl, hI.skip (.inl c1)⟩
      clear hI hx
      generalize mD m = MM at *
      generalize m.1.map iN = M1 at *
      generalize R.map rgD = RR at *
      simp [x_rings_of_3, hd6, c1]
    · have c1' : ¬ 2 ^ sg m d.length = 2 ^ d.length := fun q => c1 ((Nat.pow_right_inj (by decide)).mp q)
      cases c2 : kn.testBit d.length with
      | true =>
        refine Goes.of (ρ := [.ln (mD m), .fz (.lst (m.1.map iN)), .own (.lst (R.map rgD)), .fz (iN kn), .fz (iN d.length), .fz (iN (2 ^ sg m d.length)), y6, y7]) ?_ ⟨R, kn, _, _, _, _, rfl, hI.skip (.inr c2)⟩
        clear hI hx
        generalize mD m = MM at *
        generalize m.1.map iN = M1 at *
        generalize R.map rgD = RR at *
        generalize 2 ^ sg m d.length = z at *
        simp [x_rings_of_3, hd6, c1', c2]
      | false =>
        obtain ⟨r, kn', z7, e, hI'⟩ := p_ring_in (s0 := .ln (mD m)) (s2 := .own (.lst (R.map rgD))) (s5 := .fz (iN (2 ^ sg m d.length))) (y6 := y6) (y7 := y7) hb hm hI hdb c1 c2
        refine Goes.of (ρ := [.ln (mD m), .fz (.lst (m.1.map iN)), .own (.lst ((R ++ [r]).map rgD)), .fz (iN kn'), .fz (iN d.length), .fz (iN (2 ^ sg m d.length)), .fz (rgD r), z7]) ?_ ⟨R ++ [r], kn', _, _, _, _, rfl, hI'⟩
        rw [List.map_append, List.map_singleton]
        have er : rgD r = .lst (r.map iN) := rfl
        rw [er]
        clear hI hI' hx
        generalize mD m = MM at *
        generalize m.1.map iN = M1 at *
        generalize R.map rgD = RR at *
        generalize r.map iN = rr at *
        generalize 2 ^ sg m d.length = z at *
        simp [x_rings_of_3, hd6, c1', c2, e, hRl6]
  obtain ⟨ρ', e, R, kn, y4, y5, y6, y7, rfl, hI⟩ := key
  rw [hml] at hI
  refine ⟨R, kn, ?_, hI⟩
  simp only [mD] at *
  generalize m.1.map iN = M1 at *
  generalize R.map rgD = RR at *
  simp [d_rings_of, b_rings_of, e]
end
end PG
namespace PG
open DN Gf
open L2 (Key)
open PySem (PyData Str)
theorem filterMap_congr' {α β : Type} {f g : α → Option β} : ∀ {l : List α}, (∀ a ∈ l, f a = g a) → l.filterMap f = l.filterMap g
  | [], _ => rfl
  | a :: l, h => by
    rw [List.filterMap_cons, List.filterMap_cons, h a List.mem_cons_self, filterMap_congr' fun b hb => h b (List.mem_cons_of_mem _ hb)]
theorem pick_down {α : Type} (xs : List α) : ∀ c, c ≤ xs.length → (List.range c).filterMap (fun k => xs[xs.length - 1 - k]?) = (xs.drop (xs.length - c)).reverse
  | 0, _ => by simp
  | c + 1, h => by
    rw [List.range_succ, List.filterMap_append, pick_down xs c (by omega)]
    have e : xs[xs.length - 1 - c]? = some (xs[xs.length - 1 - c]'(by omega)) := List.getElem?_eq_getElem (by omega)
    have e2 : xs.drop (xs.length - (c + 1)) = xs[xs.length - 1 - c]'(by omega) :: xs.drop (xs.length - c) := by
      rw [List.drop_eq_getElem_cons (by omega)]
      congr 2
      · omega
      · omega
    rw [e2, List.reverse_cons]
    simp [e]
open PySem PySem.Spec PyProof.Rows in
theorem pick_ring {α : Type} (xs : List α) : pickL xs none (some 0) (some (-1)) = xs.tail.reverse := by
  cases xs with
  | nil => rfl
  | cons x t =>
    have h := pick_down (x :: t) t.length (by simp)
    have e : (x :: t).drop ((x :: t).length - t.length) = t := by simp
    rw [e] at h
    rw [List.tail_cons, ← h]
    unfold pickL
    generalize hn : (x :: t).length = n
    have hn1 : n = t.length + 1 := by rw [← hn]; rfl
    have hb : sliceBounds none (some 0) (some (-1)) n = ((n : Int) - 1, 0, -1) := by
      unfold sliceBounds
      simp
      omega
    rw [hb]
    show (sliceRange ((n : Int) - 1) 0 (-1)).filterMap _ = _
    unfold sliceRange
    have hc : (if (-1 : Int) > 0 then (if (n : Int) - 1 < 0 then (0 - ((n : Int) - 1) + -1 - 1) / -1 else 0) else (if (n : Int) - 1 > 0 then ((n : Int) - 1 - 0 - -1 - 1) / (- -1) else 0)).toNat = t.length := by
      rw [if_neg (by decide)]
      split
      · rw [Int.neg_neg, Int.ediv_one]; omega
      · omega
    dsimp only
    rw [hc, List.filterMap_map]
    refine filterMap_congr' fun k hk => ?_
    have hk := List.mem_range.mp hk
    have : ((n : Int) - 1 + -1 * (k : Int)).toNat = n - 1 - k := by omega
    simp only [Function.comp_apply, this]
section
variable {b : Nat} {m : Mp} {T : Nat}
def ClT (m : Mp) (T S : Nat) : Prop := ∀ i, S.testBit i = true → (S ||| T).testBit (sg m i) = true
theorem steps_app {rs : List Nat} {o T : Nat} : ∀ {L1 L2 : List Nat} {S S1 S2 : Nat}, Steps rs o T S L1 S1 → Steps rs o T S1 L2 S2 → Steps rs o T S (L1 ++ L2) S2
  | [], _, _, _, _, h1, h2 => by
    have : _ = _ := h1
    subst this
    exact h2
  | i :: L, _, _, _, _, h1, h2 => ⟨h1.1, h1.2.1, h1.2.2.1, steps_app h1.2.2.2 h2⟩
theorem steps_of {o : Nat} (hm : Mov b m) : ∀ (L : List Nat) (S : Nat), S < 2 ^ b → ClT m T S → L.Nodup → (∀ x ∈ L, o.testBit x = true ∧ S.testBit x = false ∧ x < b) → (∀ A x B, L = A ++ x :: B → sg m x = x ∨ sg m x ∈ A ∨ (S ||| T).testBit (sg m x) = true) →
    ∃ S', Steps m.1 o T S L S' ∧ S' < 2 ^ b ∧ ClT m T S' ∧ ∀ i, S'.testBit i = (S.testBit i || decide (i ∈ L))
  | [], S, hS, hc, _, _, _ => ⟨S, rfl, hS, hc, fun i => by simp⟩
  | x :: L, S, hS, hc, nd, hL, hA => by
    obtain ⟨a1, a2, a3⟩ := hL x List.mem_cons_self
    obtain ⟨n1, n2⟩ := List.nodup_cons.mp nd
    have hS2 := or_pow_lt hS a3
    have hbit : ∀ i, (S ||| 2 ^ x).testBit i = (S.testBit i || decide (x = i)) := fun i => by rw [Nat.testBit_or, Nat.testBit_two_pow]
    have hc2 : ClT m T (S ||| 2 ^ x) := fun i hi => by
      rw [hbit] at hi
      rw [Nat.testBit_or, hbit]
      by_cases e : x = i
      · subst e
        rcases hA [] x L rfl with h | h | h
        · simp [h]
        · cases h
        · rw [Nat.testBit_or] at h
          cases h1 : S.testBit (sg m x) <;> simp_all
      · have hi : S.testBit i = true := by simpa [e] using hi
        have := hc i hi
        rw [Nat.testBit_or] at this
        cases h1 : S.testBit (sg m i) <;> simp_all
    obtain ⟨S', k1, k2, k3, k4⟩ := steps_of (o := o) hm L (S ||| 2 ^ x) hS2 hc2 n2 (fun y hy => by
      obtain ⟨b1, b2, b3⟩ := hL y (List.mem_cons_of_mem _ hy)
      refine ⟨b1, ?_, b3⟩
      rw [hbit, b2]
      have : ¬ x = y := fun e => n1 (e ▸ hy)
      simp [this]) (fun A y B e => by
      rcases hA (x :: A) y B (by rw [e]; rfl) with h | h | h
      · exact .inl h
      · rcases List.mem_cons.mp h with h | h
        · refine .inr (.inr ?_)
          rw [Nat.testBit_or, hbit, h]
          simp
        · exact .inr (.inl h)
      · refine .inr (.inr ?_)
        rw [Nat.testBit_or] at h
        rw [Nat.testBit_or, hbit]
        cases h1 : S.testBit (sg m y) <;> simp_all)
    refine ⟨S', ⟨a1, a2, (freeB_mov hm hS2).mpr hc2, k1⟩, k2, k3, fun i => ?_⟩
    rw [k4, hbit]
    by_cases e : x = i
    · subst e; simp
    · have : ¬ i = x := fun q => e q.symm
      simp [e, this]
theorem ring_steps {o : Nat} {r : List Nat} {S : Nat} (hm : Mov b m) (hr : Ring b m r) (hnd : r.Nodup) (hS : S < 2 ^ b) (hc : ClT m T S) (hT : T.testBit (r.getD 0 0) = true) (hL : ∀ x ∈ r.tail, o.testBit x = true ∧ S.testBit x = false) :
    ∃ S', Steps m.1 o T S r.tail.reverse S' ∧ S' < 2 ^ b ∧ ClT m T S' ∧ ∀ i, S'.testBit i = (S.testBit i || decide (i ∈ r.tail)) := by
  have ht : r.tail.Nodup := by
    cases r with
    | nil => exact List.nodup_nil
    | cons a t => exact (List.nodup_cons.mp hnd).2
  obtain ⟨S', k1, k2, k3, k4⟩ := steps_of (o := o) (T := T) hm r.tail.reverse S hS hc ((List.reverse_perm _).nodup_iff.mpr ht) (fun x hx => by
    have hx := List.mem_reverse.mp hx
    obtain ⟨h1, h2⟩ := hL x hx
    exact ⟨h1, h2, hr.lt x (List.mem_of_mem_tail hx)⟩) (fun A x B e => by
    have e : r.tail = B.reverse ++ x :: A.reverse := by
      have := congrArg List.reverse e
      simpa using this
    match hrr : r, hr.ne with
    | a :: t, _ =>
      subst hrr
      rw [List.tail_cons] at e
      have hx : (a :: t).getD (B.length + 1) 0 = x := by
        rw [List.getD_cons_succ, e]
        simp [List.getD_eq_getElem?_getD]
      have hlen : (a :: t).length = B.length + 1 + 1 + A.length := by
        rw [List.length_cons, e]; simp; omega
      cases hA : A.reverse with
      | nil =>
        have hA0 : A = [] := by simpa using hA
        subst hA0
        refine .inr (.inr ?_)
        have hla := hr.la
        rw [show (a :: t).length - 1 = B.length + 1 by simp at hlen ⊢; omega, hx] at hla
        rw [hla, Nat.testBit_or, hT]
        simp
      | cons y A' =>
        refine .inr (.inl ?_)
        have hl2 : B.length + 1 + 1 < (a :: t).length := by
          have : A.length ≠ 0 := fun q => by
            have : A = [] := List.length_eq_zero_iff.mp q
            rw [this] at hA; cases hA
          omega
        have hnx := hr.nx (B.length + 1) hl2
        rw [hx, List.getD_cons_succ, e, hA] at hnx
        have : (B.reverse ++ x :: y :: A').getD (B.length + 1) 0 = y := by simp [List.getD_eq_getElem?_getD]
        rw [this] at hnx
        rw [hnx]
        have : y ∈ A.reverse := by rw [hA]; exact List.mem_cons_self
        exact List.mem_reverse.mp this)
  exact ⟨S', k1, k2, k3, fun i => by rw [k4]; simp⟩
theorem flat_rings : ∀ R : List (List Nat), flatR (fzs (R.map rgD)) = some (R.flatten.map iN)
  | [] => rfl
  | r :: R => by
    have e : lstR (.fz (rgD r)) = some (r.map iN) := rfl
    show (lstR (.fz (rgD r))).bind (fun ds => (flatR (fzs (R.map rgD))).map (ds ++ ·)) = _
    rw [e, flat_rings R, List.flatten_cons, List.map_append]
    rfl
def hdM (R : List (List Nat)) : List Nat := R.map fun r => r.getD 0 0
def mvL (b : Nat) (m : Mp) (R : List (List Nat)) : List Nat := (chg b m).filter (fun i => !decide (i ∈ R.flatten)) ++ R.flatMap fun r => r.tail.reverse
theorem hd_nd : ∀ {R : List (List Nat)}, (∀ r ∈ R, r ≠ []) → R.flatten.Nodup → (hdM R).Nodup
  | [], _, _ => List.nodup_nil
  | r :: R, h, nd => by
    rw [List.flatten_cons] at nd
    obtain ⟨n1, n2, n3⟩ := List.nodup_append.mp nd
    refine List.nodup_cons.mpr ⟨fun q => ?_, hd_nd (fun q hq => h q (List.mem_cons_of_mem _ hq)) n2⟩
    obtain ⟨r', hr', e⟩ := List.mem_map.mp q
    have h1 : r.getD 0 0 ∈ r := getD_mem (List.length_pos_iff.mpr (h r List.mem_cons_self))
    have h2 : r'.getD 0 0 ∈ r' := getD_mem (List.length_pos_iff.mpr (h r' (List.mem_cons_of_mem _ hr')))
    exact n3 _ h1 _ (List.mem_flatten.mpr ⟨r', hr', h2⟩) e.symm
theorem p_best_of_move {R : List (List Nat)} {kn : Nat} (hb : b ≤ 60) (hm : Mov b m) (hI : RgI b m b R kn) (e0 : d_rings_of [mD m] = .ok [] (.own (.lst (R.map rgD)))) :
    d_best_of_move [mD m] = .ok [] (.tp [.fz (iN (mk (hdM R))), .own (.lst ((mvL b m R).map iN))]) := by
  have hfl : ∀ x ∈ R.flatten, x < b := fun x hx => by
    obtain ⟨r, hr, hx⟩ := List.mem_flatten.mp hx
    exact (hI.ring r hr).lt x hx
  have hfn := nodup_le (n := b) hI.nd hfl
  have hne : ∀ r ∈ R, r ≠ [] := fun r hr => (hI.ring r hr).ne
  have hRl : R.length ≤ b := by
    have := nodup_le (n := b) (hd_nd hne hI.nd) fun x hx => by
      obtain ⟨r, hr, rfl⟩ := List.mem_map.mp hx
      exact (hI.ring r hr).lt _ (getD_mem (List.length_pos_iff.mpr (hne r hr)))
    unfold hdM at this
    rwa [List.length_map] at this
  have e1 := flat_rings R
  have e2 := p_mask_of (b := b) (by omega) hI.nd hfl
  have e3 := p_changed_of hb hm.map
  have hcl : (chg b m).length ≤ b := nodup_le (chg_nd b m) chg_lt
  have hkb : ∀ i, (mk R.flatten).testBit i = decide (i ∈ R.flatten) := fun i => mk_bit i hI.nd
  have e4 : ∀ s3 s4 : Sl, lcLoop (store 5) x_best_of_move_1 (dVar 5) [5] (fzs ((chg b m).map iN)) [.fz (mD m), .fz (.lst (R.map rgD)), .fz (iN (mk R.flatten)), s3, s4, .un] [] = some ([.fz (mD m), .fz (.lst (R.map rgD)), .fz (iN (mk R.flatten)), s3, s4, .un], ((chg b m).filter fun i => !decide (i ∈ R.flatten)).map iN) := fun s3 s4 =>
    lc_filter (g := store 5) (t := x_best_of_move_1) (f := dVar 5) (vs := [5]) (ρ := [.fz (mD m), .fz (.lst (R.map rgD)), .fz (iN (mk R.flatten)), s3, s4, .un]) iN (fun i => !decide (i ∈ R.flatten)) iN (xs := chg b m) (fun i hi => by
      have hi6 : i ≤ 100000 := by have := chg_lt i hi; omega
      have hk := hkb i
      generalize mk R.flatten = K at *
      generalize mD m = MM at *
      generalize R.map rgD = RR at *
      by_cases c : i ∈ R.flatten
      · rw [decide_eq_true c] at hk
        simp [x_best_of_move_1, hi6, hk, c]
      · rw [decide_eq_false c] at hk
        simp [x_best_of_move_1, hi6, hk, c]) (by omega)
  have hC : ((chg b m).filter fun i => !decide (i ∈ R.flatten)).length ≤ b := Nat.le_trans (List.length_filter_le ..) hcl
  obtain ⟨ρ', e5, y4, rfl, hy4⟩ := loop_l (g := store 4) (b := x_best_of_move_2) rgD (fun d ρ => ∃ y4, ρ = [.fz (mD m), .fz (.lst (R.map rgD)), .fz (iN (mk R.flatten)), .own (.lst ((((chg b m).filter fun i => !decide (i ∈ R.flatten)) ++ d.flatMap fun r => r.tail.reverse).map iN)), y4, .un] ∧ isOwn y4 = false) (xs := R) (ρ := [.fz (mD m), .fz (.lst (R.map rgD)), .fz (iN (mk R.flatten)), .own (.lst (((chg b m).filter fun i => !decide (i ∈ R.flatten)).map iN)), .un, .un]) ⟨.un, by simp, rfl⟩ (by
    rintro d r t ρ hx ⟨y4, rfl, _⟩
    refine Goes.of (ρ := [.fz (mD m), .fz (.lst (R.map rgD)), .fz (iN (mk R.flatten)), .own (.lst ((((chg b m).filter fun i => !decide (i ∈ R.flatten)) ++ (d ++ [r]).flatMap fun r => r.tail.reverse).map iN)), .fz (rgD r), .un]) ?_ ⟨_, rfl, rfl⟩
    have hlen : ∀ D : List (List Nat), (D.flatMap fun r => r.tail.reverse).length ≤ D.flatten.length := fun D => by
      induction D with
      | nil => simp
      | cons r D ih => rw [List.flatMap_cons, List.flatten_cons, List.length_append, List.length_append, List.length_reverse, List.length_tail]; omega
    have hdl : (d.flatMap fun r => r.tail.reverse).length + r.length ≤ 60 := by
      have h1 := hlen d
      have h2 : R.flatten.length = d.flatten.length + (r.length + t.flatten.length) := by
        rw [hx, List.flatten_append, List.flatten_cons, List.length_append, List.length_append]
      omega
    have hp : pickL (r.map iN) none (some 0) (some (-1)) = r.tail.reverse.map iN := by
      rw [pick_ring, List.map_reverse, List.map_tail]
    have hpl : (r.tail.reverse).length ≤ 60 := by rw [List.length_reverse, List.length_tail]; omega
    have gp : gPk (.lst (r.map iN)) none (some 0) (some (-1)) = some (.own (.lst (r.tail.reverse.map iN))) := by
      show (if (decide ((some (-1) : Option Int) ≠ some 0) && decide ((pickL (r.map iN) none (some 0) (some (-1))).length ≤ 100000)) = true then some (DN.R.own (D.lst (pickL (r.map iN) none (some 0) (some (-1))))) else none) = _
      rw [hp, List.length_map]
      have : (decide ((some (-1) : Option Int) ≠ some 0) && decide (r.tail.reverse.length ≤ 100000)) = true := by
        rw [decide_eq_true (by decide), decide_eq_true (by omega)]; rfl
      simp only [this, if_true]
    have ge : gExtend (.lst ((((chg b m).filter fun i => !decide (i ∈ R.flatten)) ++ d.flatMap fun r => r.tail.reverse).map iN)) [.lst (r.tail.reverse.map iN)] = some (.lst ((((chg b m).filter fun i => !decide (i ∈ R.flatten)) ++ (d ++ [r]).flatMap fun r => r.tail.reverse).map iN), .non) := by
      rw [gExtend_N (by rw [List.length_map, List.length_map, List.length_append]; omega)]
      rw [List.flatMap_append, List.flatMap_singleton, ← List.map_append, List.append_assoc]
    have er : rgD r = .lst (r.map iN) := rfl
    rw [er]
    clear e1 e2 e3 e4 hkb hx hp
    generalize ((((chg b m).filter fun i => !decide (i ∈ R.flatten)) ++ (d ++ [r]).flatMap fun r => r.tail.reverse).map iN) = Z2 at *
    generalize ((((chg b m).filter fun i => !decide (i ∈ R.flatten)) ++ d.flatMap fun r => r.tail.reverse).map iN) = Z1 at *
    generalize mk R.flatten = K at *
    generalize mD m = MM at *
    generalize R.map rgD = RR at *
    generalize r.tail.reverse.map iN = W at *
    generalize r.map iN = rr at *
    have hng : gNeg (iN 1) = some (.fz (.int (-1))) := by with_unfolding_all rfl
    have gp2 : gPk (.lst rr) none (some (nI 0)) (some (-1)) = some (.own (.lst W)) := gp
    simp [x_best_of_move_2, gp2, ge])
  have e6 : lcLoop (store 4) dYes x_best_of_move_3 [4] (fzs (R.map rgD)) [.fz (mD m), .fz (.lst (R.map rgD)), .fz (iN (mk R.flatten)), .own (.lst ((mvL b m R).map iN)), .un, .un] [] = some ([.fz (mD m), .fz (.lst (R.map rgD)), .fz (iN (mk R.flatten)), .own (.lst ((mvL b m R).map iN)), .un, .un], (hdM R).map iN) := by
    have e := lc_map (g := store 4) (t := dYes) (f := x_best_of_move_3) (vs := [4]) (ρ := [.fz (mD m), .fz (.lst (R.map rgD)), .fz (iN (mk R.flatten)), .own (.lst ((mvL b m R).map iN)), .un, .un]) rgD (fun r => iN (r.getD 0 0)) (xs := R) (fun r hr => by
      have hg : gIx (rgD r) (iN 0) = some (.fz (iN (r.getD 0 0))) := by
        unfold rgD
        rw [gIx_lst, List.getElem?_map, List.getElem?_eq_getElem (List.length_pos_iff.mpr (hne r hr)), List.getD_eq_getElem?_getD, List.getElem?_eq_getElem (List.length_pos_iff.mpr (hne r hr))]
        rfl
      generalize rgD r = rr at *
      generalize R.map rgD = RR at *
      generalize mk R.flatten = K at *
      generalize mD m = MM at *
      generalize (mvL b m R).map iN = Z at *
      simp [x_best_of_move_3, hg]) (by omega)
    unfold hdM
    rw [List.map_map]
    exact e
  have e7 := p_mask_of (b := b) (by omega) (hd_nd hne hI.nd) (fun x hx => by
    obtain ⟨r, hr, rfl⟩ := List.mem_map.mp hx
    exact (hI.ring r hr).lt _ (getD_mem (List.length_pos_iff.mpr (hne r hr))))
  have hfl6 : (R.flatten.map iN).length < 100000 := by rw [List.length_map]; omega
  clear hkb hI hne
  rw [show (((chg b m).filter fun i => !decide (i ∈ R.flatten)) ++ R.flatMap fun r => r.tail.reverse) = mvL b m R from rfl] at e5
  generalize (mvL b m R).map iN = Z at *
  generalize ((chg b m).filter fun i => !decide (i ∈ R.flatten)).map iN = CF at *
  generalize hdM R = HH at *
  generalize HH.map iN = H2 at *
  generalize mk HH = T0 at *
  simp only [mD] at *
  generalize m.1.map iN = M1 at *
  generalize R.map rgD = RR at *
  generalize R.flatten.map iN = FF at *
  generalize mk R.flatten = K at *
  simp [d_best_of_move, b_best_of_move, e0, e1, e2, e3, e4, e5, e6, e7, hfl6, hy4, finFlat]
end
end PG
namespace PG
open DN Gf
open L2 (Key)
open PySem (PyData Str)
section
variable {b : Nat} {m : Mp} {T : Nat} {R : List (List Nat)} {kn : Nat}
theorem RgI.ne (hI : RgI b m b R kn) : ∀ r ∈ R, r ≠ [] := fun r hr => (hI.ring r hr).ne
theorem RgI.hdlt (hI : RgI b m b R kn) : ∀ x ∈ hdM R, x < b := fun x hx => by
  obtain ⟨r, hr, rfl⟩ := List.mem_map.mp hx
  exact (hI.ring r hr).lt _ (getD_mem (List.length_pos_iff.mpr (hI.ne r hr)))
theorem mem_chg_mov (hm : Mov b m) {i : Nat} : i ∈ chg b m ↔ i < b ∧ (sg m i ≠ i ∨ m.2.testBit i = true) := by
  unfold chg
  rw [List.mem_filter, List.mem_range]
  constructor
  · rintro ⟨h1, h2⟩
    refine ⟨h1, ?_⟩
    rw [hm.pw i h1] at h2
    by_cases c : sg m i = i
    · rw [c] at h2; simp at h2; exact .inr h2
    · exact .inl c
  · rintro ⟨h1, h2⟩
    refine ⟨h1, ?_⟩
    rw [hm.pw i h1]
    rcases h2 with h2 | h2
    · have : ¬ 2 ^ sg m i = 2 ^ i := fun e => h2 ((Nat.pow_right_inj (by decide)).mp e)
      rw [decide_eq_false this]; rfl
    · rw [h2, Bool.or_true]
theorem ring_uniq (hI : RgI b m b R kn) {r r' : List Nat} (hr : r ∈ R) (hr' : r' ∈ R) {x : Nat} (hx : x ∈ r) (hx' : x ∈ r') : r = r' := by
  have h2 := (List.pairwise_flatten.mp hI.nd).2
  obtain ⟨i, hi, rfl⟩ := List.getElem_of_mem hr
  obtain ⟨j, hj, rfl⟩ := List.getElem_of_mem hr'
  rcases Nat.lt_trichotomy i j with c | c | c
  · exact absurd rfl (List.pairwise_iff_getElem.mp h2 i j hi hj c x hx x hx')
  · subst c; rfl
  · exact absurd rfl (List.pairwise_iff_getElem.mp h2 j i hj hi c x hx' x hx)
theorem RgI.rnd (hI : RgI b m b R kn) : ∀ r ∈ R, r.Nodup := (List.pairwise_flatten.mp hI.nd).1
theorem ring_heads (hI : RgI b m b R kn) {r : List Nat} (hr : r ∈ R) {x : Nat} (hx : x ∈ r) : x ∈ hdM R ↔ x = r.getD 0 0 := by
  constructor
  · intro h
    obtain ⟨r', hr', e⟩ := List.mem_map.mp h
    have hx' : x ∈ r' := by rw [← e]; exact getD_mem (List.length_pos_iff.mpr (hI.ne r' hr'))
    rw [ring_uniq hI hr hr' hx hx']; exact e.symm
  · rintro rfl
    exact List.mem_map.mpr ⟨r, hr, rfl⟩
theorem hdM_flat (hI : RgI b m b R kn) {x : Nat} (h : x ∈ hdM R) : x ∈ R.flatten := by
  obtain ⟨r, hr, rfl⟩ := List.mem_map.mp h
  exact List.mem_flatten.mpr ⟨r, hr, getD_mem (List.length_pos_iff.mpr (hI.ne r hr))⟩
theorem tail_iff (hI : RgI b m b R kn) {r : List Nat} (hr : r ∈ R) {x : Nat} (hx : x ∈ r) : x ∈ r.tail ↔ x ∉ hdM R := by
  rw [ring_heads hI hr hx]
  have nd := hI.rnd r hr
  match r, hx, nd with
  | a :: t, hx, nd =>
    have n1 := (List.nodup_cons.mp nd).1
    show x ∈ t ↔ ¬ x = a
    rcases List.mem_cons.mp hx with rfl | hx
    · exact ⟨fun q => absurd q n1, fun q => absurd rfl q⟩
    · exact ⟨fun _ e => n1 (e ▸ hx), fun _ => hx⟩
theorem mv_rings {o : Nat} (hm : Mov b m) (hI : RgI b m b R kn) (ho : ∀ x, x ∈ R.flatten → x ∉ hdM R → o.testBit x = true) (hT : ∀ x ∈ hdM R, T.testBit x = true) : ∀ (D : List (List Nat)) (S : Nat), (∀ r ∈ D, r ∈ R) → D.flatten.Nodup → S < 2 ^ b → ClT m T S → (∀ x ∈ D.flatten, S.testBit x = false) →
    ∃ S', Steps m.1 o T S (D.flatMap fun r => r.tail.reverse) S' ∧ S' < 2 ^ b ∧ ∀ i, S'.testBit i = (S.testBit i || decide (∃ r ∈ D, i ∈ r.tail))
  | [], S, _, _, hS, _, _ => ⟨S, rfl, hS, fun i => by simp⟩
  | r :: D, S, hD, nd, hS, hc, hz => by
    have hr := hD r List.mem_cons_self
    rw [List.flatten_cons] at nd hz
    obtain ⟨n1, n2, n3⟩ := List.nodup_append.mp nd
    obtain ⟨S1, k1, k2, k3, k4⟩ := ring_steps (o := o) (T := T) hm (hI.ring r hr) n1 hS hc (hT _ (List.mem_map.mpr ⟨r, hr, rfl⟩)) (fun x hx => by
      have hxr := List.mem_of_mem_tail hx
      exact ⟨ho x (List.mem_flatten.mpr ⟨r, hr, hxr⟩) ((tail_iff hI hr hxr).mp hx), hz x (List.mem_append_left _ hxr)⟩)
    obtain ⟨S', q1, q2, q3⟩ := mv_rings (o := o) hm hI ho hT D S1 (fun q hq => hD q (List.mem_cons_of_mem _ hq)) n2 k2 k3 (fun x hx => by
      rw [k4, hz x (List.mem_append_right _ hx)]
      have : ¬ x ∈ r.tail := fun q => n3 _ (List.mem_of_mem_tail q) _ hx rfl
      simp [this])
    refine ⟨S', by rw [List.flatMap_cons]; exact steps_app k1 q1, q2, fun i => ?_⟩
    rw [q3, k4, Bool.or_assoc]
    congr 1
    by_cases c1 : i ∈ r.tail
    · have : ∃ q ∈ r :: D, i ∈ q.tail := ⟨r, List.mem_cons_self, c1⟩
      simp only [c1, this, decide_true, Bool.true_or]
    · by_cases c2 : ∃ q ∈ D, i ∈ q.tail
      · obtain ⟨q, hq, hi⟩ := c2
        have h1 : ∃ q ∈ D, i ∈ q.tail := ⟨q, hq, hi⟩
        have h2 : ∃ q ∈ r :: D, i ∈ q.tail := ⟨q, List.mem_cons_of_mem _ hq, hi⟩
        simp only [h1, h2, decide_true, Bool.or_true]
      · have h2 : ¬ ∃ q ∈ r :: D, i ∈ q.tail := by
          rintro ⟨q, hq, hi⟩
          rcases List.mem_cons.mp hq with rfl | hq
          · exact c1 hi
          · exact c2 ⟨q, hq, hi⟩
        simp only [c1, c2, h2, decide_false, Bool.or_false]
theorem mv_steps (hm : Mov b m) (hI : RgI b m b R kn) : Steps m.1 (onceM b m (mk (hdM R))) (mk (hdM R)) 0 (mvL b m R) (onceM b m (mk (hdM R))) := by
  have hTb : ∀ i, (mk (hdM R)).testBit i = decide (i ∈ hdM R) := fun i => mk_bit i (hd_nd hI.ne hI.nd)
  have hch : ∀ {x}, x ∈ R.flatten → x ∈ chg b m := fun {x} hx => by
    obtain ⟨r, hr, hx⟩ := List.mem_flatten.mp hx
    exact (mem_chg_mov hm).mpr ⟨(hI.ring r hr).lt x hx, .inl ((hI.ring r hr).mv x hx)⟩
  have ho : ∀ x, x ∈ chg b m → x ∉ hdM R → (onceM b m (mk (hdM R))).testBit x = true := fun x h1 h2 => by
    rw [onceM_bit, hTb, decide_eq_true h1, decide_eq_false h2]; rfl
  obtain ⟨S1, k1, k2, k3, k4⟩ := steps_of (o := onceM b m (mk (hdM R))) (T := mk (hdM R)) hm ((chg b m).filter fun i => !decide (i ∈ R.flatten)) 0 (Nat.two_pow_pos b) (fun i hi => by rw [Nat.zero_testBit] at hi; cases hi) ((chg_nd b m).filter _) (fun x hx => by
    obtain ⟨h1, h2⟩ := List.mem_filter.mp hx
    have h2 : x ∉ R.flatten := by simpa using h2
    exact ⟨ho x h1 fun q => h2 (hdM_flat hI q), Nat.zero_testBit x, chg_lt x h1⟩) (fun A x B e => by
    have hx : x ∈ (chg b m).filter fun i => !decide (i ∈ R.flatten) := by rw [e]; simp
    obtain ⟨h1, h2⟩ := List.mem_filter.mp hx
    have h2 : x ∉ R.flatten := by simpa using h2
    exact .inl (Classical.byContradiction fun c => h2 (hI.cov x (chg_lt x h1) c)))
  obtain ⟨S', q1, q2, q3⟩ := mv_rings (o := onceM b m (mk (hdM R))) (T := mk (hdM R)) hm hI (fun x h1 h2 => ho x (hch h1) h2) (fun x hx => by rw [hTb, decide_eq_true hx]) R S1 (fun _ h => h) hI.nd k2 k3 (fun x hx => by
    rw [k4, Nat.zero_testBit, Bool.false_or]
    refine decide_eq_false fun q => ?_
    have := (List.mem_filter.mp q).2
    simp only [hx, decide_true, Bool.not_true] at this
    cases this)
  have e : S' = onceM b m (mk (hdM R)) := Nat.eq_of_testBit_eq fun i => by
    rw [q3, k4, Nat.zero_testBit, Bool.false_or, onceM_bit, hTb]
    by_cases c : i ∈ R.flatten
    · obtain ⟨r, hr, hx⟩ := List.mem_flatten.mp c
      have h1 : ¬ i ∈ (chg b m).filter fun i => !decide (i ∈ R.flatten) := fun q => by
        have := (List.mem_filter.mp q).2
        simp only [c, decide_true, Bool.not_true] at this
        cases this
      have h2 : (∃ q ∈ R, i ∈ q.tail) ↔ ¬ i ∈ hdM R := by
        rw [← tail_iff hI hr hx]
        constructor
        · rintro ⟨q, hq, hi⟩
          rw [ring_uniq hI hr hq hx (List.mem_of_mem_tail hi)]; exact hi
        · exact fun h => ⟨r, hr, h⟩
      rw [decide_eq_false h1, decide_eq_true (hch c), Bool.false_or, Bool.true_and]
      by_cases d : i ∈ hdM R
      · rw [decide_eq_true d, decide_eq_false fun q => h2.mp q d]; rfl
      · rw [decide_eq_false d, decide_eq_true (h2.mpr d)]; rfl
    · have h2 : ¬ ∃ q ∈ R, i ∈ q.tail := by
        rintro ⟨q, hq, hi⟩
        exact c (List.mem_flatten.mpr ⟨q, hq, List.mem_of_mem_tail hi⟩)
      have h3 : ¬ i ∈ hdM R := fun q => c (hdM_flat hI q)
      rw [decide_eq_false h2, decide_eq_false h3, Bool.or_false, Bool.not_false, Bool.and_true]
      refine decide_eq_decide.mpr ?_
      rw [List.mem_filter]
      simp only [c, decide_false, Bool.not_false, and_true]
  rw [e] at q1
  exact steps_app k1 q1
theorem steps_rch {rs : List Nat} {o T : Nat} : ∀ {L : List Nat} {S S' : Nat}, Rch rs o T S → Steps rs o T S L S' → Rch rs o T S'
  | [], _, _, h, e => by
    have : _ = _ := e
    exact this ▸ h
  | i :: L, _, _, h, e => steps_rch (h.more e.1 e.2.1 e.2.2.1) e.2.2.2
theorem cost_eq {T : Nat} : ∃ x, x ≤ (bitsN T).length ∧ costN b m T + x = (chg b m).length + 2 * (bitsN T).length ∧ x = ((chg b m).filter fun i => T.testBit i).length := by
  refine ⟨((chg b m).filter fun i => T.testBit i).length, ?_, ?_, rfl⟩
  · exact len_sub ((chg_nd b m).filter _) fun i hi => mem_bitsN.mpr (List.mem_filter.mp hi).2
  · have h1 : (bitsN (onceM b m T)).length = ((chg b m).filter fun i => !T.testBit i).length := by
      refine List.Perm.length_eq ((List.perm_ext_iff_of_nodup (bitsN_nodup _) ((chg_nd b m).filter _)).mpr fun i => ?_)
      rw [mem_bitsN, onceM_bit, List.mem_filter]
      simp
    have h2 : (chg b m).length = ((chg b m).filter fun i => T.testBit i).length + ((chg b m).filter fun i => !T.testBit i).length := by
      rw [← List.countP_eq_length_filter, ← List.countP_eq_length_filter]
      have := List.length_eq_countP_add_countP (fun i => T.testBit i) (l := chg b m)
      rw [this]
      congr 1
      refine List.countP_congr fun i _ => ?_
      simp
    unfold costN
    rw [h1]
    omega
theorem mv_cost (hm : Mov b m) (hI : RgI b m b R kn) : costN b m (mk (hdM R)) = (chg b m).length + R.length := by
  obtain ⟨x, _, h2, h3⟩ := cost_eq (b := b) (m := m) (T := mk (hdM R))
  have hnd := hd_nd hI.ne hI.nd
  have hTb : ∀ i, (mk (hdM R)).testBit i = decide (i ∈ hdM R) := fun i => mk_bit i hnd
  have e1 : (bitsN (mk (hdM R))).length = (hdM R).length := List.Perm.length_eq ((List.perm_ext_iff_of_nodup (bitsN_nodup _) hnd).mpr fun i => by rw [mem_bitsN, hTb]; simp)
  have e2 : ((chg b m).filter fun i => (mk (hdM R)).testBit i).length = (hdM R).length := List.Perm.length_eq ((List.perm_ext_iff_of_nodup ((chg_nd b m).filter _) hnd).mpr fun i => by
    rw [List.mem_filter, hTb, decide_eq_true_eq]
    refine ⟨fun q => q.2, fun q => ⟨?_, q⟩⟩
    obtain ⟨r, hr, hx⟩ := List.mem_flatten.mp (hdM_flat hI q)
    exact (mem_chg_mov hm).mpr ⟨(hI.ring r hr).lt i hx, .inl ((hI.ring r hr).mv i hx)⟩)
  have e3 : (hdM R).length = R.length := List.length_map ..
  omega
theorem rings_hit {T : Nat} (hm : Mov b m) (hI : RgI b m b R kn) (hT : T < 2 ^ b) (hs : Srv b m T) : ∀ D : List (List Nat), (∀ r ∈ D, r ∈ R) → D.flatten.Nodup → ∃ X : List Nat, X.length = D.length ∧ X.Nodup ∧ ∀ x ∈ X, x ∈ D.flatten ∧ T.testBit x = true
  | [], _, _ => ⟨[], rfl, List.nodup_nil, fun x hx => nomatch hx⟩
  | r :: D, h, nd => by
    rw [List.flatten_cons] at nd
    obtain ⟨n1, n2, n3⟩ := List.nodup_append.mp nd
    obtain ⟨X, h1, h2, h3⟩ := rings_hit hm hI hT hs D (fun q hq => h q (List.mem_cons_of_mem _ hq)) n2
    obtain ⟨x, hx, hb⟩ := ring_hit hm hT (hI.ring r (h r List.mem_cons_self)) hs
    refine ⟨x :: X, by rw [List.length_cons, h1]; rfl, List.nodup_cons.mpr ⟨fun q => n3 _ hx _ (h3 x q).1 rfl, h2⟩, fun y hy => ?_⟩
    rw [List.flatten_cons]
    rcases List.mem_cons.mp hy with rfl | hy
    · exact ⟨List.mem_append_left _ hx, hb⟩
    · exact ⟨List.mem_append_right _ (h3 y hy).1, (h3 y hy).2⟩
theorem mv_least {T : Nat} (hm : Mov b m) (hI : RgI b m b R kn) (hT : T < 2 ^ b) (hs : Srv b m T) : costN b m (mk (hdM R)) ≤ costN b m T := by
  rw [mv_cost hm hI]
  obtain ⟨X, h1, h2, h3⟩ := rings_hit hm hI hT hs R (fun _ h => h) hI.nd
  have h4 : X.length ≤ (bitsN T).length := len_sub h2 fun x hx => mem_bitsN.mpr (h3 x hx).2
  obtain ⟨x, h5, h6, _⟩ := cost_eq (b := b) (m := m) (T := T)
  omega
end
end PG
namespace PG
open DN Gf
open L2 (Key)
open PySem (PyData Str)
section
variable {b : Nat} {m : Mp} {T : Nat}
theorem row_ne (h : Map b m) : ∀ r ∈ m.1, 1 ≤ r := fun r hr => by
  obtain ⟨i, hi, e⟩ := List.getElem_of_mem hr
  have hib : i < b := by rw [← h.len]; exact hi
  refine Nat.pos_of_ne_zero fun z => ?_
  have := h.ind (Nat.pow_lt_pow_right (by decide) hib) (by rw [sel_pow m.1 i hi, e, z])
  have := Nat.two_pow_pos i
  omega
theorem p_is_moving (hb : b ≤ 60) (h : Map b m) : d_is_moving [mD m] = .ok [] (.fz (.bl (m.1.all fun r => decide (r &&& (r - 1) = 0)))) := by
  have hl := h.len
  have e := lc_map (g := store 1) (t := dYes) (f := x_is_moving_1) (vs := [1]) (ρ := [.ln (mD m), .un]) iN (fun r => D.bl (decide (r &&& (r - 1) = 0))) (xs := m.1) (fun r hr => by
    have h1 := row_ne h r hr
    generalize mD m = MM at *
    simp [x_is_moving_1, h1]) (by omega)
  have e4 : gAll [.lst (m.1.map fun r => D.bl (decide (r &&& (r - 1) = 0)))] = some (.fz (.bl (m.1.all fun r => decide (r &&& (r - 1) = 0)))) := by
    have := gAll_N (m.1.map fun r => decide (r &&& (r - 1) = 0))
    rw [List.map_map, List.all_map] at this
    exact this
  generalize m.1.map (fun r => D.bl (decide (r &&& (r - 1) = 0))) = G at *
  generalize m.1.all (fun r => decide (r &&& (r - 1) = 0)) = B at *
  simp only [mD] at *
  generalize m.1.map iN = M1 at *
  simp [d_is_moving, b_is_moving, e, e4]
theorem p_best_of (hb : b ≤ 10) (h : Map b m) : ∃ (T : Nat) (L : List Nat), d_best_of [mD m] = .ok [] (.tp [.fz (iN T), .own (.lst (L.map iN))]) ∧ T < 2 ^ b ∧ Steps m.1 (onceM b m T) T 0 L (onceM b m T) ∧ Srv b m T ∧ ∀ T', T' < 2 ^ b → Srv b m T' → costN b m T ≤ costN b m T' := by
  have e0 := p_is_moving (show b ≤ 60 by omega) h
  cases hB : m.1.all fun r => decide (r &&& (r - 1) = 0) with
  | true =>
    rw [hB] at e0
    have hm := mov_of h fun r hr => of_decide_eq_true (List.all_eq_true.mp hB r hr)
    obtain ⟨R, kn, e1, hI⟩ := p_rings_of (show b ≤ 60 by omega) hm
    have e2 := p_best_of_move (show b ≤ 60 by omega) hm hI e1
    have hs := mv_steps hm hI
    have hlt : mk (hdM R) < 2 ^ b := mk_lt (hd_nd hI.ne hI.nd) hI.hdlt
    refine ⟨mk (hdM R), mvL b m R, ?_, hlt, hs, steps_rch .zero hs, fun T' h1 h2 => mv_least hm hI h1 h2⟩
    generalize mD m = MM at *
    generalize (mvL b m R).map iN = Z at *
    simp [d_best_of, b_best_of, e0, e2]
  | false =>
    rw [hB] at e0
    obtain ⟨T, L, e1, hT, hs, hv, hmin⟩ := p_best_with hb h
    refine ⟨T, L, ?_, hT, hs, hv, fun T' h1 h2 => ?_⟩
    · generalize mD m = MM at *
      generalize L.map iN = Z at *
      simp [d_best_of, b_best_of, e0, e1]
    · have := of_decide_eq_true (hmin T' h1 h2)
      simp only at this
      omega
theorem p_fewest_of {T : Nat} {L : List Nat} (hb : b ≤ 60) (h : Map b m) (hT : T < 2 ^ b) (e : d_best_of [mD m] = .ok [] (.tp [.fz (iN T), .own (.lst (L.map iN))])) : d_fewest_of [mD m] = .ok [] (.fz (iN (costN b m T))) := by
  have e2 := p_cost_of hb h hT
  generalize costN b m T = c at *
  generalize mD m = MM at *
  generalize L.map iN = Z at *
  simp [d_fewest_of, b_fewest_of, e, e2]
theorem p_need_searched (h1 : 1 ≤ b) (hb : b ≤ 7) (h : Map b m) : d_need_searched [mD m] = .ok [] (.fz .non) := by
  have e0 := p_is_moving (show b ≤ 60 by omega) h
  have e1 : d_need_mapping [mD m] = .ok [] (.fz .non) := p_need_mapping h1 (show b ≤ 60 by omega) h
  have e2 := p_need_few (b := b) (n := 7) hb
  have hml : (m.1.map iN).length = b := by rw [List.length_map]; exact h.len
  have hb6 : b ≤ 100000 := by omega
  generalize (m.1.all fun r => decide (r &&& (r - 1) = 0)) = B at *
  simp only [mD] at *
  generalize m.1.map iN = M1 at *
  cases B <;> simp [d_need_searched, b_need_searched, e0, e1, e2, hml, hb6]
theorem p_fewest_stages {T : Nat} {L : List Nat} (h1 : 1 ≤ b) (hb : b ≤ 7) (h : Map b m) (hT : T < 2 ^ b) (e : d_best_of [mD m] = .ok [] (.tp [.fz (iN T), .own (.lst (L.map iN))])) : d_fewest_stages [mD m] = .ok [] (.fz (iN (costN b m T))) := by
  have e1 := p_need_searched h1 hb h
  have e2 := p_fewest_of (show b ≤ 60 by omega) h hT e
  generalize costN b m T = c at *
  generalize mD m = MM at *
  simp [d_fewest_stages, b_fewest_stages, e1, e2]
theorem p_best_twice {T : Nat} {L : List Nat} (h1 : 1 ≤ b) (hb : b ≤ 7) (h : Map b m) (e : d_best_of [mD m] = .ok [] (.tp [.fz (iN T), .own (.lst (L.map iN))])) : d_best_twice [mD m] = .ok [] (.fz (iN T)) := by
  have e1 : d_need_mapping [mD m] = .ok [] (.fz .non) := p_need_mapping h1 (show b ≤ 60 by omega) h
  have e2 := p_need_few (b := b) (n := 7) hb
  have hml : (m.1.map iN).length = b := by rw [List.length_map]; exact h.len
  have hb6 : b ≤ 100000 := by omega
  generalize L.map iN = Z at *
  simp only [mD] at *
  generalize m.1.map iN = M1 at *
  simp [d_best_twice, b_best_twice, e, e1, e2, hml, hb6]
theorem p_need_twice (h1 : 1 ≤ b) (hb : b ≤ 7) (h : Map b m) (hT : T < 2 ^ b) : d_need_twice [mD m, iN T] = .ok [] (.fz .non) := by
  have e1 : d_need_mapping [mD m] = .ok [] (.fz .non) := p_need_mapping h1 (show b ≤ 60 by omega) h
  have e2 := p_need_few (b := b) (n := 7) hb
  have e3 := p_need_place (b := b) (m := T) (by omega) hT
  have hml : (m.1.map iN).length = b := by rw [List.length_map]; exact h.len
  have hb6 : b ≤ 100000 := by omega
  simp only [mD] at *
  generalize m.1.map iN = M1 at *
  simp [d_need_twice, b_need_twice, e1, e2, e3, hml, hb6]
open Classical in
theorem p_serves (h1 : 1 ≤ b) (hb : b ≤ 7) (h : Map b m) (hT : T < 2 ^ b) : d_serves [mD m, iN T] = .ok [] (.fz (.bl (decide (Srv b m T)))) := by
  have e1 := p_need_twice h1 hb h hT
  have e2 := p_once_of (twice := T) (show b ≤ 60 by omega) h
  obtain ⟨F, e3, hF⟩ := p_sets_before (show b ≤ 10 by omega) h hT
  have e4 := kv_in oN F (onceM b m T)
  have e5 : decide (onceM b m T ∈ F.map (·.1)) = decide (Srv b m T) := decide_eq_decide.mpr (hF.iff _)
  rw [e5] at e4
  generalize decide (Srv b m T) = B at *
  generalize onceM b m T = o at *
  generalize kvD oN F = KF at *
  generalize mD m = MM at *
  simp [d_serves, b_serves, e1, e2, e3, e4]
theorem p_serving (h1 : 1 ≤ b) (hb : b ≤ 7) (h : Map b m) (hT : T < 2 ^ b) (hs : Srv b m T) : ∃ L : List Nat, d_serving_sequence [mD m, iN T] = .ok [] (.own (.lst (L.map iN))) ∧ Steps m.1 (onceM b m T) T 0 L (onceM b m T) := by
  have e1 := p_need_twice h1 hb h hT
  have e2 := p_once_of (twice := T) (show b ≤ 60 by omega) h
  obtain ⟨F, e3, hF⟩ := p_sets_before (show b ≤ 10 by omega) h hT
  have e4 := kv_in oN F (onceM b m T)
  have hin := (hF.iff _).mpr hs
  rw [decide_eq_true hin] at e4
  obtain ⟨L, e5, e6⟩ := p_sequence_to (show b ≤ 10 by omega) hF hin
  refine ⟨L, ?_, e6⟩
  clear e6 hin hs hF
  generalize onceM b m T = o at *
  generalize kvD oN F = KF at *
  generalize mD m = MM at *
  generalize L.map iN = Z at *
  simp [d_serving_sequence, b_serving_sequence, e1, e2, e3, e4, e5]
theorem p_serving_no (h1 : 1 ≤ b) (hb : b ≤ 7) (h : Map b m) (hT : T < 2 ^ b) (hs : ¬ Srv b m T) : d_serving_sequence [mD m, iN T] = .ok [] (.fz .non) := by
  have e1 := p_need_twice h1 hb h hT
  have e2 := p_once_of (twice := T) (show b ≤ 60 by omega) h
  obtain ⟨F, e3, hF⟩ := p_sets_before (show b ≤ 10 by omega) h hT
  have e4 := kv_in oN F (onceM b m T)
  rw [decide_eq_false fun q => hs ((hF.iff _).mp q)] at e4
  clear hs hF
  generalize onceM b m T = o at *
  generalize kvD oN F = KF at *
  generalize mD m = MM at *
  simp [d_serving_sequence, b_serving_sequence, e1, e2, e3, e4]
theorem keys_kv (F : List (Nat × Option Nat)) : keysI (kvK oN F) = some ((F.map (·.1)).map fun k : Nat => (k : Int)) := by
  unfold kvK
  induction F with
  | nil => rfl
  | cons p F ih => simp only [List.map_cons, keysI, ih]; rfl
theorem gSorted_kv {F : List (Nat × Option Nat)} (hl : F.length < 64) : gSorted [kvD oN F] = some (.own (.lst ((sortN (F.map (·.1))).map iN))) := by
  unfold kvD
  refine (gSorted.eq_2 _).trans ?_
  rw [keys_kv]
  show (if ((F.map (·.1)).map fun k : Nat => (k : Int)).length < 64 then some (R.own (D.lst ((sortI ((F.map (·.1)).map fun k : Nat => (k : Int))).map .int))) else none) = _
  rw [if_pos (by rw [List.length_map, List.length_map]; exact hl), sortN_eq, List.map_map]
  rfl
/-- the told barring list -/
theorem p_barring (h1 : 1 ≤ b) (hb : b ≤ 5) (h : Map b m) (hT : T < 2 ^ b) (hs : ¬ Srv b m T) : ∃ S : List Nat, d_barring_sets [mD m, iN T] = .ok [] (.own (.lst (S.map iN))) ∧ S.Nodup ∧ S.Pairwise (· ≤ ·) ∧ (∀ k ∈ S, k < 2 ^ b) ∧ ∀ k, k ∈ S ↔ Rch m.1 (onceM b m T) T k := by
  have e1 := p_need_twice h1 (show b ≤ 7 by omega) h hT
  have e2 := p_once_of (twice := T) (show b ≤ 60 by omega) h
  obtain ⟨F, e3, hF⟩ := p_sets_before (show b ≤ 10 by omega) h hT
  have e4 := kv_notIn oN F (onceM b m T)
  rw [decide_eq_false fun q => hs ((hF.iff _).mp q)] at e4
  have hp5 : 2 ^ b ≤ 2 ^ 5 := Nat.pow_le_pow_right (by decide) hb
  have hl : F.length < 64 := by have := nd_le hF.nd hF.lt; omega
  have e5 := gSorted_kv hl
  refine ⟨sortN (F.map (·.1)), ?_, (sortN_perm _).nodup_iff.mpr hF.nd, sortN_le _, fun k hk => ?_, fun k => by rw [mem_sortN]; exact hF.iff k⟩
  · clear hs hF
    generalize (sortN (F.map (·.1))).map iN = Z at *
    generalize onceM b m T = o at *
    generalize kvD oN F = KF at *
    generalize mD m = MM at *
    simp [d_barring_sets, b_barring_sets, e1, e2, e3, e4, e5]
  · obtain ⟨p, hp, rfl⟩ := List.mem_map.mp (mem_sortN.mp hk)
    exact hF.lt p hp
theorem p_barring_no (h1 : 1 ≤ b) (hb : b ≤ 7) (h : Map b m) (hT : T < 2 ^ b) (hs : Srv b m T) : d_barring_sets [mD m, iN T] = .ok [] (.fz .non) := by
  have e1 := p_need_twice h1 hb h hT
  have e2 := p_once_of (twice := T) (show b ≤ 60 by omega) h
  obtain ⟨F, e3, hF⟩ := p_sets_before (show b ≤ 10 by omega) h hT
  have e4 := kv_notIn oN F (onceM b m T)
  rw [decide_eq_true ((hF.iff _).mpr hs)] at e4
  clear hs hF
  generalize onceM b m T = o at *
  generalize kvD oN F = KF at *
  generalize mD m = MM at *
  simp [d_barring_sets, b_barring_sets, e1, e2, e3, e4]
end
end PG
namespace PG
open DN Gf
open L2 (Key)
open PySem (PyData Str)
theorem spanC {C : Nat} : ∀ {ms : List Nat} {x : Nat}, Span ms x → Span (ms.map (· &&& C)) (x &&& C)
  | [], x, h => by
    cases h
    rw [Nat.zero_and]; exact .zero _
  | m :: ms, x, h => by
    rw [List.map_cons]
    rcases h.cons_inv with h | ⟨y, rfl, hy⟩
    · exact (spanC h).of_mem fun z hz => List.mem_cons_of_mem _ hz
    · have e : (m ^^^ y) &&& C = (m &&& C) ^^^ (y &&& C) := Nat.eq_of_testBit_eq fun j => by
        rw [Nat.testBit_and, Nat.testBit_xor, Nat.testBit_xor, Nat.testBit_and, Nat.testBit_and]
        cases m.testBit j <;> cases y.testBit j <;> cases C.testBit j <;> rfl
      rw [e]
      exact (Span.mem List.mem_cons_self).xor ((spanC hy).of_mem fun z hz => List.mem_cons_of_mem _ hz)
theorem rk_andC (C : Nat) (ms : List Nat) : rk (ms.map (· &&& C)) ≤ rk ms := by
  induction ms using snoc_ind with
  | h0 => exact Nat.le_refl _
  | h1 ms m ih =>
    rw [List.map_append, List.map_singleton]
    by_cases h : Span ms m
    · rw [rk_snoc_in h, rk_snoc_in (spanC h)]; exact ih
    · rw [rk_snoc_out h]
      by_cases h2 : Span (ms.map (· &&& C)) (m &&& C)
      · rw [rk_snoc_in h2]; omega
      · rw [rk_snoc_out h2]; omega
theorem rk_app_le (A : List Nat) (B : List Nat) : rk (A ++ B) ≤ rk A + B.length := by
  induction B using snoc_ind with
  | h0 => simp
  | h1 B x ih =>
    rw [← List.append_assoc, List.length_append, List.length_singleton]
    by_cases h : Span (A ++ B) x
    · rw [rk_snoc_in h]; omega
    · rw [rk_snoc_out h]; omega
section
variable {b : Nat} {m : Mp}
theorem freeB_mono {rs : List Nat} {S T S' T' : Nat} (h : freeB rs S T = true) (h1 : ∀ i, S'.testBit i = true → S.testBit i = true) (h2 : ∀ i, (S ||| T).testBit i = true → (S' ||| T').testBit i = true) : freeB rs S' T' = true := by
  unfold freeB at h ⊢
  have h := of_decide_eq_true h
  refine decide_eq_true ?_
  have e1 : bitsN S' = (bitsN S).filter fun i => S'.testBit i := asc_ext (bitsN_lt S') ((bitsN_lt S).filter _) fun i => by
    rw [mem_bitsN, List.mem_filter, mem_bitsN]
    exact ⟨fun q => ⟨h1 i q, q⟩, fun q => q.2⟩
  have e2 : rk (atB rs S T) ≤ rk (((bitsN S').map fun i => rs.getD i 0 &&& (S ||| T))) + ((bitsN S).filter fun i => !S'.testBit i).length := by
    have : rk (atB rs S T) = rk (((bitsN S').map fun i => rs.getD i 0 &&& (S ||| T)) ++ (((bitsN S).filter fun i => !S'.testBit i).map fun i => rs.getD i 0 &&& (S ||| T))) := by
      refine rk_same (fun x hx => ?_) (fun x hx => ?_)
      · obtain ⟨i, hi, rfl⟩ := List.mem_map.mp hx
        rw [← List.map_append]
        refine List.mem_map.mpr ⟨i, ?_, rfl⟩
        rw [List.mem_append, mem_bitsN, List.mem_filter]
        cases c : S'.testBit i
        · exact .inr ⟨hi, rfl⟩
        · exact .inl rfl
      · rw [← List.map_append] at hx
        obtain ⟨i, hi, rfl⟩ := List.mem_map.mp hx
        refine List.mem_map.mpr ⟨i, ?_, rfl⟩
        rcases List.mem_append.mp hi with hi | hi
        · exact mem_bitsN.mpr (h1 i (mem_bitsN.mp hi))
        · exact (List.mem_filter.mp hi).1
    rw [this]
    have := rk_app_le ((bitsN S').map fun i => rs.getD i 0 &&& (S ||| T)) (((bitsN S).filter fun i => !S'.testBit i).map fun i => rs.getD i 0 &&& (S ||| T))
    rwa [List.length_map] at this
  have e3 : (bitsN S).length = (bitsN S').length + ((bitsN S).filter fun i => !S'.testBit i).length := by
    rw [e1, ← List.countP_eq_length_filter, ← List.countP_eq_length_filter]
    have := List.length_eq_countP_add_countP (fun i => S'.testBit i) (l := bitsN S)
    rw [this]
    congr 1
    refine List.countP_congr fun i _ => ?_
    simp
  have e4 : ((bitsN S').map fun i => rs.getD i 0 &&& (S ||| T)) = (atB rs S' T').map (· &&& (S ||| T)) := by
    unfold atB
    rw [List.map_map]
    refine List.map_congr_left fun i _ => ?_
    show _ = rs.getD i 0 &&& (S' ||| T') &&& (S ||| T)
    refine Nat.eq_of_testBit_eq fun j => ?_
    rw [Nat.testBit_and, Nat.testBit_and, Nat.testBit_and]
    cases c : (S ||| T).testBit j
    · simp
    · rw [h2 j c]; simp
  have e5 := rk_andC (S ||| T) (atB rs S' T')
  rw [← e4] at e5
  have e6 := rk_le_len (atB rs S' T')
  have e7 : (atB rs S' T').length = (bitsN S').length := List.length_map ..
  have e8 : (atB rs S T).length = (bitsN S).length := List.length_map ..
  omega
theorem del_bit {S i j : Nat} : (andN S (2 ^ i)).testBit j = (S.testBit j && !decide (i = j)) := by rw [testBit_andN, Nat.testBit_two_pow]
theorem onceM_more {T i : Nat} : onceM b m (T ||| 2 ^ i) = andN (onceM b m T) (2 ^ i) := Nat.eq_of_testBit_eq fun j => by
  rw [del_bit, onceM_bit, onceM_bit, Nat.testBit_or, Nat.testBit_two_pow]
  cases decide (j ∈ chg b m) <;> cases T.testBit j <;> cases decide (i = j) <;> rfl
theorem rch_more {rs : List Nat} {o T i : Nat} : ∀ {S : Nat}, Rch rs o T S → Rch rs (andN o (2 ^ i)) (T ||| 2 ^ i) (andN S (2 ^ i)) := by
  intro S h
  induction h with
  | zero =>
    have : andN 0 (2 ^ i) = 0 := Nat.eq_of_testBit_eq fun j => by rw [del_bit, Nat.zero_testBit]; rfl
    rw [this]; exact .zero
  | @more S x _ h1 h2 h3 ih =>
    by_cases c : i = x
    · subst c
      have : andN (S ||| 2 ^ i) (2 ^ i) = andN S (2 ^ i) := Nat.eq_of_testBit_eq fun j => by
        rw [del_bit, del_bit, Nat.testBit_or, Nat.testBit_two_pow]
        cases S.testBit j <;> cases decide (i = j) <;> rfl
      rw [this]; exact ih
    · have : andN (S ||| 2 ^ x) (2 ^ i) = andN S (2 ^ i) ||| 2 ^ x := Nat.eq_of_testBit_eq fun j => by
        rw [del_bit, Nat.testBit_or, Nat.testBit_or, del_bit, Nat.testBit_two_pow]
        by_cases d : x = j
        · subst d; simp [c]
        · simp [d]
      rw [this]
      refine .more ih (by rw [del_bit, h1, decide_eq_false c]; rfl) (by rw [del_bit, h2]; rfl) (freeB_mono h3 (fun j hj => ?_) fun j hj => ?_)
      · rw [← this, del_bit] at hj
        exact (Bool.and_eq_true_iff.mp hj).1
      · rw [← this, Nat.testBit_or, del_bit, Nat.testBit_or, Nat.testBit_two_pow]
        rw [Nat.testBit_or, Nat.testBit_or, Nat.testBit_two_pow] at hj
        rw [Nat.testBit_or, Nat.testBit_two_pow]
        by_cases d : i = j
        · simp [d]
        · simp only [d, decide_false, Bool.not_false, Bool.and_true, Bool.or_false]
          exact hj
theorem srv_more {T i : Nat} (h : Srv b m T) : Srv b m (T ||| 2 ^ i) := by
  unfold Srv at h ⊢
  rw [onceM_more]
  exact rch_more h
theorem srv_stage {t : Tri} {T : Nat} (hl : m.1.length = b) (ht : Stg b t) (h : Srv b m T) : Srv b (mstep t m) (T ||| 2 ^ t.a) := by
  have h2 := srv_more (i := t.a) h
  unfold Srv at h2 ⊢
  have hg : ∀ i, i ≠ t.a → (mstep t m).1.getD i 0 = m.1.getD i 0 := fun i hi => by
    unfold mstep
    simp only
    rw [List.getD_eq_getElem?_getD, List.getElem?_set_ne (fun e => hi e.symm), List.getD_eq_getElem?_getD]
  have ho : onceM b (mstep t m) (T ||| 2 ^ t.a) = onceM b m (T ||| 2 ^ t.a) := Nat.eq_of_testBit_eq fun i => by
    rw [onceM_bit, onceM_bit, Nat.testBit_or, Nat.testBit_two_pow]
    by_cases c : i = t.a
    · subst c; simp
    · have e : (i ∈ chg b (mstep t m)) ↔ i ∈ chg b m := by
        unfold chg
        rw [List.mem_filter, List.mem_filter, hg i c]
        have : (mstep t m).2.testBit i = m.2.testBit i := by
          show (stg t m.2).testBit i = _
          exact stg_off c
        rw [this]
      rw [decide_eq_decide.mpr e]
  rw [ho]
  have hoa : (onceM b m (T ||| 2 ^ t.a)).testBit t.a = false := by rw [onceM_bit, Nat.testBit_or, Nat.testBit_two_pow]; simp
  have key : ∀ S, Rch m.1 (onceM b m (T ||| 2 ^ t.a)) (T ||| 2 ^ t.a) S → S.testBit t.a = false ∧ Rch (mstep t m).1 (onceM b m (T ||| 2 ^ t.a)) (T ||| 2 ^ t.a) S := by
    intro S q
    induction q with
    | zero => exact ⟨Nat.zero_testBit _, .zero⟩
    | @more S x _ k1 k2 k3 ih =>
      have hx : x ≠ t.a := fun e => by rw [e, hoa] at k1; cases k1
      have hSa : (S ||| 2 ^ x).testBit t.a = false := by rw [Nat.testBit_or, ih.1, Nat.testBit_two_pow, decide_eq_false hx]; rfl
      refine ⟨hSa, .more ih.2 k1 k2 ?_⟩
      have : atB (mstep t m).1 (S ||| 2 ^ x) (T ||| 2 ^ t.a) = atB m.1 (S ||| 2 ^ x) (T ||| 2 ^ t.a) := by
        unfold atB
        refine List.map_congr_left fun i hi => ?_
        have hi := mem_bitsN.mp hi
        rw [hg i fun e => by rw [e, hSa] at hi; cases hi]
      unfold freeB at k3 ⊢
      rw [this]; exact k3
  exact (key _ h2).2
end
end PG
namespace PG
open DN Gf
open L2 (Key)
open PySem (PyData Str)
section
variable {b : Nat} {m : Mp} {T : Nat}
theorem steps_props {rs : List Nat} {o T : Nat} : ∀ {L : List Nat} {S S' : Nat}, Steps rs o T S L S' → L.Nodup ∧ (∀ x ∈ L, o.testBit x = true ∧ S.testBit x = false) ∧ (∀ i, S'.testBit i = (S.testBit i || decide (i ∈ L))) ∧ ∀ n, n < L.length → ∃ Sn, freeB rs Sn T = true ∧ ∀ i, Sn.testBit i = (S.testBit i || decide (i ∈ L.take (n + 1)))
  | [], S, S', h => ⟨List.nodup_nil, (fun x hx => (nomatch hx)), (fun i => by
      have e : S = S' := h
      subst e; simp), (fun n hn => absurd hn (Nat.not_lt_zero _))⟩
  | x :: L, S, S', h => by
    obtain ⟨a1, a2, a3, a4⟩ := h
    obtain ⟨k1, k2, k3, k4⟩ := steps_props a4
    have hb : ∀ i, (S ||| 2 ^ x).testBit i = (S.testBit i || decide (x = i)) := fun i => by rw [Nat.testBit_or, Nat.testBit_two_pow]
    have hx : x ∉ L := fun q => by
      have := (k2 x q).2
      rw [hb] at this
      simp at this
    refine ⟨List.nodup_cons.mpr ⟨hx, k1⟩, fun y hy => ?_, fun i => ?_, fun n hn => ?_⟩
    · rcases List.mem_cons.mp hy with rfl | hy
      · exact ⟨a1, a2⟩
      · obtain ⟨q1, q2⟩ := k2 y hy
        rw [hb] at q2
        exact ⟨q1, (Bool.or_eq_false_iff.mp q2).1⟩
    · rw [k3, hb, Bool.or_assoc]
      congr 1
      by_cases e : x = i
      · subst e; simp
      · have : ¬ i = x := fun q => e q.symm
        simp [e, this]
    · cases n with
      | zero =>
        refine ⟨_, a3, fun i => ?_⟩
        rw [hb]
        congr 1
        by_cases e : x = i
        · subst e; simp
        · have : ¬ i = x := fun q => e q.symm
          simp [e, this]
      | succ n =>
        obtain ⟨Sn, q1, q2⟩ := k4 n (by simpa using hn)
        refine ⟨Sn, q1, fun i => ?_⟩
        rw [q2, hb, Bool.or_assoc, List.take_succ_cons]
        congr 1
        by_cases e : x = i
        · subst e; simp
        · have : ¬ i = x := fun q => e q.symm
          simp [e, this]
theorem p_shows_serving {L : List Nat} (h1 : 1 ≤ b) (hb : b ≤ 7) (h : Map b m) (hT : T < 2 ^ b) (hs : Steps m.1 (onceM b m T) T 0 L (onceM b m T)) : d_shows_serving [mD m, iN T, .lst (L.map iN)] = .ok [] (.fz (.bl true)) := by
  obtain ⟨k1, k2, k3, k4⟩ := steps_props hs
  have hlt := onceM_lt (b := b) (m := m) (T := T)
  have hLb : ∀ x ∈ L, x < b := fun x hx => Classical.byContradiction fun z => by
    have := (k2 x hx).1
    rw [Nat.testBit_lt_two_pow (Nat.lt_of_lt_of_le hlt (Nat.pow_le_pow_right (by decide) (Nat.le_of_not_lt z)))] at this
    cases this
  have hl : L.length ≤ b := nodup_le k1 hLb
  have e1 := p_need_twice h1 hb h hT
  have e2 := p_once_of (twice := T) (show b ≤ 60 by omega) h
  have e3 := p_are_bits (π := L) h1 (by omega) hl k1 hLb
  have e4 := p_mask_of (b := b) (by omega) k1 hLb
  have hmk : mk L = onceM b m T := Nat.eq_of_testBit_eq fun i => by rw [mk_bit i k1, k3, Nat.zero_testBit, Bool.false_or]
  rw [hmk] at e4
  have e5 := lc_map (g := store 3) (t := dYes) (f := x_shows_serving_1) (vs := [3]) (ρ := [.fz (mD m), .ln (iN T), .ln (.lst (L.map iN)), .un]) iN (fun _ => D.bl true) (xs := List.range L.length) (fun n hn => by
    have hn := List.mem_range.mp hn
    obtain ⟨Sn, q1, q2⟩ := k4 n hn
    have nd2 : (L.take (n + 1)).Nodup := k1.sublist (List.take_sublist ..)
    have hb2 : ∀ x ∈ L.take (n + 1), x < b := fun x hx => hLb x (List.mem_of_mem_take hx)
    have f1 := p_mask_of (b := b) (by omega) nd2 hb2
    have hS : mk (L.take (n + 1)) = Sn := Nat.eq_of_testBit_eq fun i => by rw [mk_bit i nd2, q2, Nat.zero_testBit, Bool.false_or]
    rw [List.map_take] at f1
    have f2 := p_is_independent (twice := T) (show b ≤ 60 by omega) h (mk_lt nd2 hb2)
    rw [hS] at f1 f2
    rw [q1] at f2
    have hl6 : (L.map iN).length = L.length := List.length_map ..
    have hn6 : n + 1 ≤ 100000 := by omega
    generalize mD m = MM at *
    generalize L.map iN = LL at *
    simp [x_shows_serving_1, f1, f2]) (by rw [List.length_range]; omega)
  have e6 : gAll [.lst ((List.range L.length).map fun _ => D.bl true)] = some (.fz (.bl true)) := by
    have := gAll_N ((List.range L.length).map fun _ => true)
    rw [List.map_map] at this
    rw [show ((List.range L.length).map fun _ => D.bl true) = (List.range L.length).map (D.bl ∘ fun _ => true) from rfl, this]
    congr 3
    rw [List.all_eq_true]
    intro x hx
    obtain ⟨_, _, rfl⟩ := List.mem_map.mp hx
    rfl
  have hml : (m.1.map iN).length = b := by rw [List.length_map]; exact h.len
  have hll : (L.map iN).length = L.length := List.length_map ..
  have hb6 : b ≤ 100000 := by omega
  have hl6 : L.length ≤ 100000 := by omega
  have hl7 : L.length ≤ 1000000 := by omega
  clear k1 k2 k3 k4 hs hmk
  generalize (List.range L.length).map (fun _ => D.bl true) = G at *
  generalize onceM b m T = o at *
  simp only [mD] at *
  generalize m.1.map iN = M1 at *
  generalize L.map iN = LL at *
  simp [d_shows_serving, b_shows_serving, e1, e2, e3, e4, e5, e6, hml, hll, hb6, hl6, hl7]
/-- a list that bars -/
structure Bar (b : Nat) (m : Mp) (T : Nat) (S : List Nat) : Prop where
  len : S.length ≤ 128
  sub : ∀ k ∈ S, k ≤ onceM b m T ∧ andN k (onceM b m T) = 0
  top : onceM b m T ∉ S
  cl : ∀ k ∈ S, ∀ i, (onceM b m T).testBit i = true → k.testBit i = false → k ||| 2 ^ i ∈ S ∨ freeB m.1 (k ||| 2 ^ i) T = false
theorem p_shows_barring {S : List Nat} (h1 : 1 ≤ b) (hb : b ≤ 7) (h : Map b m) (hT : T < 2 ^ b) (hS : Bar b m T S) : d_shows_barring [mD m, iN T, .lst (S.map iN)] = .ok [] (.fz (.bl (decide (0 ∈ S)))) := by
  have hlt := onceM_lt (b := b) (m := m) (T := T)
  have e1 := p_need_twice h1 hb h hT
  have e2 := p_once_of (twice := T) (show b ≤ 60 by omega) h
  have hl := hS.len
  have hp7 : 2 ^ b ≤ 2 ^ 7 := Nat.pow_le_pow_right (by decide) hb
  have e3 := lc_map (g := store 4) (t := dYes) (f := x_shows_barring_1) (vs := [4]) (ρ := [.fz (mD m), .ln (iN T), .ln (.lst (S.map iN)), .fz (iN (onceM b m T)), .un, .un]) iN (fun _ => D.bl true) (xs := S) (fun k hk => by
    obtain ⟨q1, q2⟩ := hS.sub k hk
    have f1 := p_is_integer k 0 (onceM b m T)
    rw [decide_eq_true (Nat.zero_le k), decide_eq_true q1] at f1
    generalize mD m = MM at *
    generalize S.map iN = SS at *
    generalize onceM b m T = o at *
    simp [x_shows_barring_1, f1, q2]) (by omega)
  have e4 : gAll [.lst (S.map fun _ => D.bl true)] = some (.fz (.bl true)) := by
    have := gAll_N (S.map fun _ => true)
    rw [List.map_map] at this
    rw [show (S.map fun _ => D.bl true) = S.map (D.bl ∘ fun _ => true) from rfl, this]
    congr 3
    rw [List.all_eq_true]
    intro x hx
    obtain ⟨_, _, rfl⟩ := List.mem_map.mp hx
    rfl
  have e5 := gIn_Ns (onceM b m T) S
  rw [decide_eq_false hS.top] at e5
  have e6 := gNotIn_Ns 0 S
  have hsl : (S.map iN).length = S.length := List.length_map ..
  have hl6 : S.length ≤ 100000 := by omega
  obtain ⟨ρ', e7, y4, y5, rfl⟩ := loop_l (g := store 4) (b := x_shows_barring_3) iN (fun d ρ => ∃ y4 y5, ρ = [.fz (mD m), .ln (iN T), .ln (.lst (S.map iN)), .fz (iN (onceM b m T)), y4, y5]) (xs := S) (ρ := [.fz (mD m), .ln (iN T), .ln (.lst (S.map iN)), .fz (iN (onceM b m T)), .un, .un]) ⟨_, _, rfl⟩ (by
    rintro d k t ρ hx ⟨y4, y5, rfl⟩
    have hk : k ∈ S := by rw [hx]; simp
    obtain ⟨q1, _⟩ := hS.sub k hk
    have hal : andN (onceM b m T) k < 2 ^ b := Nat.lt_pow_two_of_testBit _ fun i hi => by rw [testBit_andN, Nat.testBit_lt_two_pow (Nat.lt_of_lt_of_le hlt (Nat.pow_le_pow_right (by decide) hi))]; rfl
    have f1 := p_bits_of (k := b) hal (by omega)
    obtain ⟨ρ', f2, z5, rfl⟩ := loop_l (g := store 5) (b := x_shows_barring_2) iN (fun d ρ => ∃ z5, ρ = [.fz (mD m), .ln (iN T), .ln (.lst (S.map iN)), .fz (iN (onceM b m T)), .fz (iN k), z5]) (xs := bitsN (andN (onceM b m T) k)) (ρ := [.fz (mD m), .ln (iN T), .ln (.lst (S.map iN)), .fz (iN (onceM b m T)), .fz (iN k), y5]) ⟨_, rfl⟩ (by
      rintro d i t ρ hx ⟨z5, rfl⟩
      have hi : i ∈ bitsN (andN (onceM b m T) k) := by rw [hx]; simp
      have hi := mem_bitsN.mp hi
      rw [testBit_andN] at hi
      obtain ⟨g1, g2⟩ := Bool.and_eq_true_iff.mp hi
      have g2 : k.testBit i = false := by simpa using g2
      have hib : i < b := Classical.byContradiction fun z => by
        rw [Nat.testBit_lt_two_pow (Nat.lt_of_lt_of_le hlt (Nat.pow_le_pow_right (by decide) (Nat.le_of_not_lt z)))] at g1
        cases g1
      have hi6 : i ≤ 100000 := by omega
      have g3 := gNotIn_Ns (k ||| 2 ^ i) S
      have g4 := p_is_independent (twice := T) (show b ≤ 60 by omega) h (or_pow_lt (Nat.lt_of_le_of_lt q1 hlt) hib)
      have g5 := hS.cl k hk i g1 g2
      refine Goes.of (ρ := [.fz (mD m), .ln (iN T), .ln (.lst (S.map iN)), .fz (iN (onceM b m T)), .fz (iN k), .fz (iN i)]) ?_ ⟨_, rfl⟩
      clear hx e3 e4 e5 e6
      generalize mD m = MM at *
      generalize S.map iN = SS at *
      generalize onceM b m T = o at *
      rcases g5 with g5 | g5
      · rw [decide_eq_true g5] at g3
        simp [x_shows_barring_2, hi6, g3]
      · rw [g5] at g4
        by_cases c : (k ||| 2 ^ i) ∈ S
        · rw [decide_eq_true c] at g3
          simp [x_shows_barring_2, hi6, g3]
        · rw [decide_eq_false c] at g3
          simp [x_shows_barring_2, hi6, g3, g4])
    refine Goes.of (ρ := [.fz (mD m), .ln (iN T), .ln (.lst (S.map iN)), .fz (iN (onceM b m T)), .fz (iN k), z5]) ?_ ⟨_, _, rfl⟩
    clear hx e3 e4 e5 e6
    generalize (bitsN (andN (onceM b m T) k)).map iN = BB at *
    generalize mD m = MM at *
    generalize S.map iN = SS at *
    generalize onceM b m T = o at *
    simp [x_shows_barring_3, f1, f2])
  clear hS
  generalize S.map (fun _ => D.bl true) = G at *
  generalize onceM b m T = o at *
  generalize mD m = MM at *
  generalize hSS : S.map iN = SS at *
  have hn8 : ¬ 128 < S.length := by omega
  by_cases c : 0 ∈ S
  · rw [decide_eq_true c] at e6 ⊢
    simp [d_shows_barring, b_shows_barring, e1, e2, e3, e4, e5, e6, e7, hsl, hl6, hn8]
  · rw [decide_eq_false c] at e6 ⊢
    simp [d_shows_barring, b_shows_barring, e1, e2, e3, e4, e5, e6, hsl, hl6, hn8]
end
end PG
namespace PG
open DN Gf
open L2 (Key)
open PySem (PyData Str)
theorem bits_len92 : ∀ n : Nat, (bitsN n).length = pc n := fun n => by
  induction n using Nat.strongRecOn with
  | ind n ih =>
    by_cases h : n = 0
    · subst h; rfl
    · have e : bitsN n = (if n % 2 = 1 then [0] else []) ++ (bitsN (n / 2)).map (· + 1) := by
        refine asc_ext (bitsN_lt n) ?_ fun i => ?_
        · refine List.pairwise_append.mpr ⟨by split <;> simp, List.pairwise_map.mpr ((bitsN_lt _).imp fun q => by omega), fun a ha c hc => ?_⟩
          obtain ⟨d, _, rfl⟩ := List.mem_map.mp hc
          have : a = 0 := by split at ha <;> simp_all
          omega
        · rw [List.mem_append, mem_bitsN, List.mem_map]
          cases i with
          | zero =>
            rw [Nat.testBit_zero]
            constructor
            · intro q
              have := of_decide_eq_true q
              exact .inl (by rw [if_pos this]; simp)
            · rintro (q | ⟨d, _, q⟩)
              · by_cases c : n % 2 = 1
                · exact decide_eq_true c
                · rw [if_neg c] at q; cases q
              · omega
          | succ i =>
            rw [Nat.testBit_succ]
            constructor
            · exact fun q => .inr ⟨i, mem_bitsN.mpr q, rfl⟩
            · rintro (q | ⟨d, hd, q⟩)
              · split at q <;> simp at q
              · have : d = i := by omega
                rw [← this]; exact mem_bitsN.mp hd
      rw [e, List.length_append, List.length_map, ih (n / 2) (by omega), pc_half n]
      congr 1
      rcases Nat.mod_two_eq_zero_or_one n with h | h <;> simp [h]
theorem p_width92 {n : Nat} (hn : n < 2 ^ 1000) : d__law_width [iN n] = .ok [] (.fz (iN (bitsN n).length)) := by
  rw [bits_len92]
  obtain ⟨ρ', e, x, rfl⟩ := while_fuel (c := x__law_width_1) (b := x__law_width_2)
    (fun k ρ => ∃ (s : Sl) (m c : Nat), ρ = [s, .fz (iN c)] ∧ (s = .ln (iN m) ∨ s = .fz (iN m)) ∧ pc m = k ∧ c + pc m = pc n)
    (fun ρ => ∃ x, ρ = [x, .fz (iN (pc n))]) (n := pc n) (ρ := [.ln (iN n), .fz (iN 0)]) (by have := pc_le hn; omega) ⟨_, n, 0, rfl, .inl rfl, rfl, Nat.zero_add _⟩ (by
    rintro k ρ ⟨s, m, c, rfl, hs, rfl, hb⟩
    by_cases h0 : m = 0
    · subst h0
      have : c = pc n := by rw [← hb, pc_zero]; rfl
      subst this
      have e : x__law_width_1 [s, .fz (iN (pc n))] = .ok [s, .fz (iN (pc n))] false := by
        generalize pc n = z at *
        rcases hs with rfl | rfl <;> simp [x__law_width_1]
      rw [e]
      exact ⟨s, rfl⟩
    · have hp := Nat.pos_of_ne_zero h0
      have h1 : 1 ≤ m := hp
      have h2 := pc_low m hp
      have e1 : x__law_width_1 [s, .fz (iN c)] = .ok [s, .fz (iN c)] true := by rcases hs with rfl | rfl <;> simp [x__law_width_1, hp]
      have e2 : x__law_width_2 [s, .fz (iN c)] = .ok [.fz (iN (m &&& m - 1)), .fz (iN (c + 1))] .nx := by rcases hs with rfl | rfl <;> simp [x__law_width_2, h1]
      rw [e1, wgo_t, e2, goes_nx]
      exact ⟨pc (m &&& m - 1), by omega, _, _, _, rfl, .inr rfl, rfl, by omega⟩)
  have e : dWhile x__law_width_1 x__law_width_2 fuel [.ln (iN n), .fz (iN 0)] = _ := e
  generalize pc n = z at *
  simp [d__law_width, b__law_width, e]
section
variable {b : Nat} {m : Mp} {T : Nat}
theorem p_unlike92 (hb : b ≤ 60) (h : Map b m) : d__law_unlike [mD m] = .ok [] (.fz (iN (mk (chg b m)))) := by
  have hl := h.len
  obtain ⟨ρ', e, u, y4, y5, rfl, hu⟩ := loop_e (g := storeN [4, 5]) (b := x__law_unlike_1) iN (fun d ρ => ∃ (u : Nat) (y4 y5 : Sl), ρ = [.fz (mD m), .fz (.lst (m.1.map iN)), .fz (iN m.2), .fz (iN u), y4, y5] ∧ ∀ i, u.testBit i = (m.2.testBit i || (decide (i < d.length) && !decide (m.1.getD i 0 = 2 ^ i))))
    (xs := m.1) (ρ := [.fz (mD m), .fz (.lst (m.1.map iN)), .fz (iN m.2), .fz (iN m.2), .un, .un]) ⟨m.2, _, _, rfl, fun i => by simp⟩ (by
    rintro d r t ρ hx ⟨u, y4, y5, rfl, hu⟩
    have hd := len_app hx
    have hd2 : d.length ≤ 100000 := by omega
    have hg : m.1.getD d.length 0 = r := by rw [hx]; simp [List.getD]
    have key : ∀ (w : Nat), (∀ i, w.testBit i = (u.testBit i || (decide (i = d.length) && !decide (r = 2 ^ d.length)))) → ∀ i, w.testBit i = (m.2.testBit i || (decide (i < (d ++ [r]).length) && !decide (m.1.getD i 0 = 2 ^ i))) := by
      intro w hw i
      rw [hw, hu, List.length_append, List.length_singleton]
      by_cases q : i = d.length
      · subst q
        rw [hg]
        simp
      · have e1 : decide (i < d.length + 1) = decide (i < d.length) := decide_eq_decide.mpr (by omega)
        rw [e1]
        simp [q]
    by_cases q : r = 2 ^ d.length
    · refine Goes.of (ρ := [.fz (mD m), .fz (.lst (m.1.map iN)), .fz (iN m.2), .fz (iN (u ||| 0 * 2 ^ d.length)), .fz (iN d.length), .fz (iN r)]) ?_ ⟨_, _, _, rfl, key _ fun i => by simp [q]⟩
      simp only [mD]
      generalize m.1.map iN = M1
      simp [x__law_unlike_1, hd2, q]
    · refine Goes.of (ρ := [.fz (mD m), .fz (.lst (m.1.map iN)), .fz (iN m.2), .fz (iN (u ||| 2 ^ d.length)), .fz (iN d.length), .fz (iN r)]) ?_ ⟨_, _, _, rfl, key _ fun i => ?_⟩
      · simp only [mD]
        generalize m.1.map iN = M1
        simp [x__law_unlike_1, hd2, q]
      · rw [Nat.testBit_or, Nat.testBit_two_pow]
        congr 1
        by_cases q2 : d.length = i
        · subst q2; simp [q]
        · have : ¬ i = d.length := fun z => q2 z.symm
          simp [q2, this])
  have hmk : u = mk (chg b m) := Nat.eq_of_testBit_eq fun i => by
    rw [hu, mk_bit i (chg_nd b m), hl]
    unfold chg
    by_cases c : i < b
    · have : (i ∈ (List.range b).filter fun i => !decide (m.1.getD i 0 = 2 ^ i) || m.2.testBit i) ↔ (!decide (m.1.getD i 0 = 2 ^ i) || m.2.testBit i) = true := by
        rw [List.mem_filter, List.mem_range]; exact ⟨fun q => q.2, fun q => ⟨c, q⟩⟩
      have e9 : decide (i ∈ (List.range b).filter fun i => !decide (m.1.getD i 0 = 2 ^ i) || m.2.testBit i) = (!decide (m.1.getD i 0 = 2 ^ i) || m.2.testBit i) := by
        cases q : (!decide (m.1.getD i 0 = 2 ^ i) || m.2.testBit i) with
        | true => exact decide_eq_true (this.mpr q)
        | false => exact decide_eq_false fun z => by rw [this.mp z] at q; cases q
      rw [e9, decide_eq_true c]
      cases m.2.testBit i <;> cases decide (m.1.getD i 0 = 2 ^ i) <;> rfl
    · have h2 : m.2.testBit i = false := Nat.testBit_lt_two_pow (Nat.lt_of_lt_of_le h.off (Nat.pow_le_pow_right (by decide) (Nat.le_of_not_lt c)))
      have : ¬ (i ∈ (List.range b).filter fun i => !decide (m.1.getD i 0 = 2 ^ i) || m.2.testBit i) := fun q => c (List.mem_range.mp (List.mem_filter.mp q).1)
      rw [decide_eq_false this, h2, decide_eq_false c]; rfl
  rw [← hmk]
  simp only [mD] at *
  generalize hM : m.1.map iN = M1 at *
  simp [d__law_unlike, b__law_unlike, e]
theorem rch_sub {rs : List Nat} {o T k : Nat} (h : Rch rs o T k) : ∀ i, k.testBit i = true → o.testBit i = true := by
  induction h with
  | zero => intro i hi; rw [Nat.zero_testBit] at hi; cases hi
  | more _ h1 _ _ ih =>
    intro i hi
    rw [Nat.testBit_or, Nat.testBit_two_pow] at hi
    rcases Bool.or_eq_true_iff.mp hi with q | q
    · exact ih i q
    · rw [← of_decide_eq_true q]; exact h1
theorem sub_le {k o : Nat} (h : ∀ i, k.testBit i = true → o.testBit i = true) : k ≤ o ∧ andN k o = 0 := by
  constructor
  · have : k = k &&& o := Nat.eq_of_testBit_eq fun i => by
      rw [Nat.testBit_and]
      cases c : k.testBit i
      · rfl
      · rw [h i c]; rfl
    rw [this]; exact Nat.and_le_right
  · refine Nat.eq_of_testBit_eq fun i => ?_
    rw [testBit_andN, Nat.zero_testBit]
    cases c : k.testBit i
    · rfl
    · rw [h i c]; rfl
theorem bar_of {S : List Nat} (hl : S.length ≤ 128) (h1 : ∀ k ∈ S, Rch m.1 (onceM b m T) T k) (h2 : onceM b m T ∉ S) (h3 : ∀ k, Rch m.1 (onceM b m T) T k → 0 < k → k ∈ S) : Bar b m T S := by
  refine ⟨hl, fun k hk => sub_le (rch_sub (h1 k hk)), h2, fun k hk i hi hk2 => ?_⟩
  cases c : freeB m.1 (k ||| 2 ^ i) T with
  | false => exact .inr rfl
  | true =>
    refine .inl (h3 _ ((h1 k hk).more hi hk2 c) ?_)
    refine Nat.pos_of_ne_zero fun z => ?_
    have : (k ||| 2 ^ i).testBit i = true := by rw [Nat.testBit_or, Nat.testBit_two_pow]; simp
    rw [z, Nat.zero_testBit] at this
    cases this
open Classical in
theorem p_barred92 (h1 : 1 ≤ b) (hb : b ≤ 5) (h : Map b m) (hT : T < 2 ^ b) (hs : ¬ Srv b m T) : d__law_barred_right_k92 [mD m, iN T] = .ok [] (.fz (.bl true)) := by
  have hp5 : 2 ^ b ≤ 2 ^ 5 := Nat.pow_le_pow_right (by decide) hb
  obtain ⟨S, e1, nd, _, hlt, hS⟩ := p_barring h1 hb h hT hs
  have hl : S.length ≤ 32 := by have := nodup_le nd hlt; omega
  have h0 : 0 ∈ S := (hS 0).mpr .zero
  have htop : onceM b m T ∉ S := fun q => hs ((hS _).mp q)
  have b1 : Bar b m T S := bar_of (by omega) (fun k hk => (hS k).mp hk) htop fun k hk _ => (hS k).mpr hk
  have b2 : Bar b m T S.reverse := bar_of (by rw [List.length_reverse]; omega) (fun k hk => (hS k).mp (List.mem_reverse.mp hk)) (fun q => htop (List.mem_reverse.mp q)) fun k hk _ => List.mem_reverse.mpr ((hS k).mpr hk)
  have b3 : Bar b m T (S.filter fun k => decide (0 < k)) := bar_of (Nat.le_trans (List.length_filter_le ..) (by omega)) (fun k hk => (hS k).mp (List.mem_filter.mp hk).1) (fun q => htop (List.mem_filter.mp q).1) fun k hk hp => List.mem_filter.mpr ⟨(hS k).mpr hk, decide_eq_true hp⟩
  have e2 := p_shows_barring h1 (show b ≤ 7 by omega) h hT b1
  rw [decide_eq_true h0] at e2
  have e3 := p_shows_barring h1 (show b ≤ 7 by omega) h hT b2
  rw [decide_eq_true (List.mem_reverse.mpr h0)] at e3
  have e4 := p_shows_barring h1 (show b ≤ 7 by omega) h hT b3
  rw [decide_eq_false (fun q => by have := (List.mem_filter.mp q).2; simp at this)] at e4
  have e5 := p_serves h1 (show b ≤ 7 by omega) h hT
  rw [decide_eq_false hs] at e5
  have e6 := p_serving_no h1 (show b ≤ 7 by omega) h hT hs
  have e7 : gRev (.lst (S.map iN)) = some (.own (.lst (S.reverse.map iN))) := by rw [List.map_reverse]; rfl
  have e8 := lc_filter (g := store 3) (t := x__law_barred_right_k92_1) (f := dVar 3) (vs := [3]) (ρ := [.fz (mD m), .ln (iN T), .ln (.lst (S.map iN)), .un]) iN (fun k => decide (0 < k)) iN (xs := S) (fun k hk => by
    generalize mD m = MM at *
    generalize S.map iN = SS at *
    by_cases c : 0 < k
    · simp [x__law_barred_right_k92_1, c]
    · simp [x__law_barred_right_k92_1, c]) (by omega)
  clear b1 b2 b3 hS htop hs
  generalize (S.filter fun k => decide (0 < k)).map iN = S3 at *
  generalize S.reverse.map iN = S2 at *
  generalize S.map iN = S1 at *
  generalize mD m = MM at *
  simp [d__law_barred_right_k92, b__law_barred_right_k92, e1, e2, e3, e4, e5, e6, e7, e8, isNon]
theorem cost92 (hb : b ≤ 60) (h : Map b m) (hT : T < 2 ^ b) : costN b m T = (bitsN (andN (mk (chg b m)) T)).length + 2 * (bitsN T).length := rfl
theorem behind_mstep {t : Tri} (h : Map b m) (ht : Stg b t) : behind m (made b [t]) = mstep t m ∧ Map b (mstep t m) := by
  have hs : ∀ u ∈ [t], Stg b u := fun u hu => by rw [List.mem_singleton.mp hu]; exact ht
  obtain ⟨k1, k2⟩ := made_ok hs
  have e0 : made b [t] = mstep t (idM b) := rfl
  have hB := h.behind k1
  have hl : (mstep t m).1.length = b := by unfold mstep; simp only; rw [List.length_set]; exact h.len
  have hap : ∀ x, x < 2 ^ b → app (mstep t m) x = app (behind m (made b [t])) x := fun x hx => by
    rw [app_behind, k2 _ (app_lt h x), app_mstep h.len ht]
    rfl
  have hM : Map b (mstep t m) := map_mstep h ht
  exact ⟨(app_ext hM hB hap).symm, hM⟩
theorem p_run_mapping92 {ts : List Tri} (h1 : 1 ≤ b) (hb : b ≤ 60) (hl : ts.length ≤ 400) (ht : ∀ t ∈ ts, Stg b t) (hm : made b ts = m) : d_run_mapping [iN b, .lst (ts.map tri)] = .ok [] (.tp [.own (.lst (m.1.map iN)), .fz (iN m.2)]) := by
  have e0 := p_need_both_k17 h1 hb hl ht
  have e2 := p_made_by (b := b) (by omega) ht
  rw [hm] at e2
  generalize m.1.map iN = M at *
  generalize ts.map tri = T at *
  simp [d_run_mapping, b_run_mapping, e0, e2]
open Classical in
theorem k92_loop {c : Nat} {s : D} {u6 u7 u8 : Sl} (h1 : 1 ≤ b) (hb : b ≤ 5) (h : Map b m) (hmin : ∀ T', T' < 2 ^ b → Srv b m T' → c ≤ costN b m T') :
    ∃ y5, dLoop (store 5) x__law_right_k92_1 (fzs ((List.range (2 ^ b)).map iN)) [.own s, .fz (iN b), .fz (mD m), .fz (iN (mk (chg b m))), .fz (iN c), .un, u6, u7, u8] = .ok [.own s, .fz (iN b), .fz (mD m), .fz (iN (mk (chg b m))), .fz (iN c), y5, u6, u7, u8] .nx := by
  have hp5 : 2 ^ b ≤ 2 ^ 5 := Nat.pow_le_pow_right (by decide) hb
  obtain ⟨ρ', e, y5, rfl⟩ := loop_l (g := store 5) (b := x__law_right_k92_1) iN (fun d ρ => ∃ y5, ρ = [.own s, .fz (iN b), .fz (mD m), .fz (iN (mk (chg b m))), .fz (iN c), y5, u6, u7, u8]) (xs := List.range (2 ^ b)) (ρ := [.own s, .fz (iN b), .fz (mD m), .fz (iN (mk (chg b m))), .fz (iN c), .un, u6, u7, u8]) ⟨_, rfl⟩ (by
    rintro d T t ρ hx ⟨y5, rfl⟩
    have hT : T < 2 ^ b := List.mem_range.mp (by rw [hx]; simp)
    have hcl : mk (chg b m) < 2 ^ b := mk_lt (chg_nd b m) chg_lt
    have hbig : 2 ^ b ≤ 2 ^ 1000 := Nat.pow_le_pow_right (by decide) (by omega)
    have hal : andN (mk (chg b m)) T < 2 ^ 1000 := Nat.lt_of_lt_of_le (Nat.lt_pow_two_of_testBit _ fun i hi => by rw [testBit_andN, Nat.testBit_lt_two_pow (Nat.lt_of_lt_of_le hcl (Nat.pow_le_pow_right (by decide) hi))]; rfl) hbig
    have e1 := p_width92 hal
    have e2 := p_width92 (Nat.lt_of_lt_of_le hT hbig)
    have e3 := cost92 (show b ≤ 60 by omega) h hT
    have e4 : costN b m T < c → d__law_barred_right_k92 [mD m, iN T] = .ok [] (.fz (.bl true)) := fun hlt => p_barred92 h1 hb h hT fun hs => by have := hmin T hT hs; omega
    rw [e3] at e4
    refine Goes.of (ρ := [.own s, .fz (iN b), .fz (mD m), .fz (iN (mk (chg b m))), .fz (iN c), .fz (iN T), u6, u7, u8]) ?_ ⟨_, rfl⟩
    clear hmin hx h e3
    generalize (bitsN (andN (mk (chg b m)) T)).length = w1 at *
    generalize (bitsN T).length = w2 at *
    generalize mk (chg b m) = CC at *
    generalize mD m = MM at *
    by_cases cc : w1 + 2 * w2 < c
    · simp [x__law_right_k92_1, e1, e2, cc, e4 cc]
    · simp [x__law_right_k92_1, e1, e2, cc])
  exact ⟨y5, e⟩
open Classical in
theorem k92_right {u : Nat} {s : D} (hs : Src u s) (hu : u < 10 ^ 5) : ∃ s', d__law_right_k92 [s] = .ok [s'] (.fz (.bl true)) ∧ Src (u + 4000) s' := by
  obtain ⟨s1, r, e1, q1, l1⟩ := p_draw' hs (by omega) (show 0 < 5 by decide) (by decide)
  obtain ⟨b, hbr⟩ : ∃ b, b = 1 + r := ⟨_, rfl⟩
  have h1 : 1 ≤ b := by omega
  have hb : b ≤ 5 := by omega
  have hp5 : 2 ^ b ≤ 2 ^ 5 := Nat.pow_le_pow_right (by decide) hb
  obtain ⟨s2, m, e2, q2, hm⟩ := p_plan (b := b) h1 (by omega) q1 (by omega)
  obtain ⟨T, L, f1, hT, hst, hsv, hmin⟩ := p_best_of (show b ≤ 10 by omega) hm
  have f2 := p_fewest_stages h1 (show b ≤ 7 by omega) hm hT f1
  have f3 := p_best_twice h1 (show b ≤ 7 by omega) hm f1
  have f4 := p_unlike92 (show b ≤ 60 by omega) hm
  obtain ⟨y5, f5⟩ := k92_loop (s := s2) (u6 := .un) (u7 := .un) (u8 := .un) h1 hb hm hmin
  obtain ⟨L2, f6, g6⟩ := p_serving h1 (show b ≤ 7 by omega) hm hT hsv
  have f7 := p_shows_serving h1 (show b ≤ 7 by omega) hm hT g6
  have f8 := p_barring_no h1 (show b ≤ 7 by omega) hm hT hsv
  obtain ⟨s3, v, e3, q3, l3⟩ := p_draw' q2 (by omega) (show 0 < b by omega) (by omega)
  have f9 := p_serves h1 (show b ≤ 7 by omega) hm (or_pow_lt hT l3)
  rw [decide_eq_true (srv_more (i := v) hsv)] at f9
  obtain ⟨s4, t, e4, q4, ht⟩ := p_some_stage (b := b) h1 (by omega) q3 (by omega)
  have hts : ∀ u ∈ [t], Stg b u := fun u hu => by rw [List.mem_singleton.mp hu]; exact ht
  have f10 := p_run_mapping92 (ts := [t]) h1 (show b ≤ 60 by omega) (by simp) hts rfl
  obtain ⟨k1, k2⟩ := behind_mstep hm ht
  have f11 := p_then h1 (show b ≤ 60 by omega) hm (made_ok hts).1
  rw [k1] at f11
  have f12 := p_serves h1 (show b ≤ 7 by omega) k2 (or_pow_lt hT ht.1)
  rw [decide_eq_true (srv_stage hm.len ht hsv)] at f12
  have hb6 : b ≤ 100000 := by omega
  have hb7 : 2 ^ b ≤ 1000000 := by omega
  have hv6 : v ≤ 100000 := by omega
  have ht6 : t.a ≤ 100000 := by have := ht.1; omega
  refine ⟨s4, ?_, q4.mono (by omega)⟩
  have et : [t].map tri = [.tup [iN t.a, iN t.b, iN t.c]] := rfl
  rw [et] at f10
  clear hmin hst hsv g6 k1 k2 hts ht hm f1
  generalize costN b m T = c at *
  generalize mk (chg b m) = CC at *
  generalize L2.map iN = LL at *
  simp only [mD] at *
  generalize (mstep t m).1.map iN = M3 at *
  generalize (mstep t m).2 = o3 at *
  generalize (made b [t]).1.map iN = M2 at *
  generalize (made b [t]).2 = o2 at *
  generalize m.1.map iN = M1 at *
  subst hbr
  simp [d__law_right_k92, b__law_right_k92, e1, e2, e3, e4, f2, f3, f4, f5, f6, f7, f8, f9, f10, f11, f12, hb6, hb7, hv6, ht6, isNon]
end
theorem p_law_k92 (ns : List Int) (hn : ns.length ≤ 63) : d_law_k92 [.lst (ns.map D.int)] = .ok [] (.fz (.bl true)) := by
  obtain ⟨ρ', e, x1, x2, x3, rfl⟩ := loop_e (g := storeN [1, 2]) (b := x_law_k92_1) D.int (fun d ρ => ∃ x1 x2 x3, ρ = [.fz (.lst (ns.map D.int)), x1, x2, x3]) (xs := ns.take 4 ++ [2]) (ρ := [.fz (.lst (ns.map D.int)), .un, .un, .un]) ⟨_, _, _, rfl⟩ (by
    rintro d c t ρ hx ⟨x1, x2, x3, rfl⟩
    have hd := len_app hx
    have hd : d.length < 5 := by
      rw [List.length_append, List.length_take, List.length_singleton] at hd
      omega
    obtain ⟨s, e, q⟩ := source_ok c (k := d.length) (by omega)
    obtain ⟨s2, e2, q2⟩ := k92_right q (by omega)
    obtain ⟨s3, e3, q3⟩ := k92_right q2 (by omega)
    refine Goes.of (ρ := [.fz (.lst (ns.map D.int)), .fz (iN d.length), .fz (.int c), .own s3]) ?_ ⟨_, _, _, rfl⟩
    simp [x_law_k92_1, e, e2, e3])
  have e' : dLoop (storeN [1, 2]) x_law_k92_1 (enumItems ((ns.map D.int).take 4 ++ [iN 2])) [.fz (.lst (ns.map D.int)), .un, .un, .un] = .ok [.fz (.lst (ns.map D.int)), x1, x2, x3] .nx := by
    rw [← e, List.map_append, List.map_take]; rfl
  have hl8 : (List.take 4 (ns.map D.int)).length + [iN 2].length ≤ 100000 := by rw [List.length_take, List.length_singleton]; omega
  have ga := gAdd_lst hl8
  simp [d_law_k92, b_law_k92, e', ga]
end PG
theorem PySem.Challenge.cw_bitstages_k92_whole_no_fewer_stages_holds : PySem.Challenge.rw_bitstages_k92_whole_no_fewer_stages.Holds := by
  exact K92.holds_of PG.p_law_k92
